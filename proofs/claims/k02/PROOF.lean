import PyProof.Rows.All
import Wide.All
import OpenK.AllK
import Wide.FinOn
import HandS.ForMost
import HandS.Exc
import HandS.WordsExc
import HandS.Flow
import HandS.Star
import HandS.TupAny
import HandS.TupMul
import HandS.IsInst
import HandS.Conv
import HandS.Wide
import HandS.Defaults
import HandS.HeadHook1
import HandS.HeadHook2
import HandS.Small
import HandS.Style
import HandS.MakeKwOnly
import HandS.Head0
import HandS.Head1
import HandS.Head2
import HandS.HeadEnd
import HandS.HeadHook3
import HandS.HeadHook4
import PySem.Challenge.RW_callayers_k02_layers_made
set_option Elab.async false
set_option linter.all false
set_option maxRecDepth 100000
set_option maxHeartbeats 4000000
namespace Br
open PySem PySem.Spec PyProof.Rows L2
/-! ### data, memory, results -/
/-- a value as plain data: tup, lst by value (lst: a list that nobody writes); ref: the n-th object of the memory; gl: what the module's name stands for; ty: a built-in class -/
inductive D where
  | non | bl (b : Bool) | int (i : Int) | str (x : Str) | tup (xs : List D) | lst (xs : List D) | ref (n : Nat) | gl (x : Str) | ty (t : String)
inductive MO where
  | lst (xs : List D) | dic (kvs : List (Key × D)) | ins (c : Str) (fs : List (Str × D))
abbrev Mem := List MO
structure Exn where
  cls : D
  fs : Option (List (Str × D))
inductive R (α : Type) where
  | ok (a : α) (M : Mem) | ex (e : Exn) (M : Mem) | no
def R.bind {α β : Type} (r : R α) (f : α → Mem → R β) : R β := match r with
  | .ok a M => f a M
  | .ex e M => .ex e M
  | .no => .no
abbrev En := List (Option D)
/-- an expression's meaning; several; a test's -/
abbrev FE := En → Mem → R D
abbrev FA := En → Mem → R (List D)
abbrev FT := En → Mem → R Bool
/-- a statement's meaning -/
inductive Fl where
  | nx | ret (d : D) | bk | ct
abbrev FS := En → Mem → R (Fl × En)

/-! ### how data stand in the heap -/
section
variable (K : PySem.W.Frag)
/-- a list that nobody writes any more -/
def SqF (H : Hp) (a : Addr) (xs : List V) : Prop := (∃ o, H a = some (.frz o (.lst xs))) ∨
  ∃ (o : Obj) (its : Array Value) (n : Nat), K.lookup a = some o ∧ o.cls = .type "list" ∧ o.dict = none ∧ o.data = .seq its n ∧ its.size ≤ sizeLine ∧ Vals xs its.toList
theorem SqF.seq {K : PySem.W.Frag} {H : Hp} {a : Addr} {xs : List V} (h : SqF K H a xs) : SqL K H a xs := h.elim (fun ⟨o, e⟩ => .inl (.inr ⟨o, e⟩)) .inr
mutual
def DV (μ : Nat → Addr) (N : Nat) (H : Hp) : D → V → Prop
  | .non, v => v = .non
  | .bl b, v => v = .bl b
  | .int i, v => v = .int i
  | .str x, v => v = .str x
  | .tup ds, v => ∃ a xs, v = .ref a ∧ SqT K H a xs ∧ DVs μ N H ds xs
  | .lst ds, v => ∃ a xs, v = .ref a ∧ SqF K H a xs ∧ DVs μ N H ds xs
  | .ref n, v => n < N ∧ v = .ref (μ n)
  | .gl x, v => v = .ref (He.ga K x)
  | .ty t, v => v = .ty t
def DVs (μ : Nat → Addr) (N : Nat) (H : Hp) : List D → List V → Prop
  | [], vs => vs = []
  | d :: ds, vs => ∃ v r, vs = v :: r ∧ DV μ N H d v ∧ DVs μ N H ds r
end
/-- tuples and locked things stand -/
structure Kp (H H' : Hp) : Prop where
  tup : ∀ b xs, H b = some (.tup xs) → H' b = some (.tup xs)
  frz : ∀ b o u, H b = some (.frz o u) → H' b = some (.frz o u)
structure Lift (μ : Nat → Addr) (N : Nat) (H : Hp) (μ' : Nat → Addr) (N' : Nat) (H' : Hp) : Prop where
  le : N ≤ N'
  same : ∀ n, n < N → μ' n = μ n
  kp : Kp H H'
  fr : ∀ b o, H b = some o → (∀ n, n < N → μ n ≠ b) → H' b = some o
  new : ∀ n, N ≤ n → n < N' → H (μ' n) = none
  dom : ∀ b, H' b = none → H b = none
end
theorem Kp.refl (H : Hp) : Kp H H := ⟨fun _ _ h => h, fun _ _ _ h => h⟩
theorem Kp.trans {H H1 H2 : Hp} (a : Kp H H1) (b : Kp H1 H2) : Kp H H2 := ⟨fun c x h => b.tup c x (a.tup c x h), fun c o u h => b.frz c o u (a.frz c o u h)⟩
theorem Kp.fresh {H : Hp} {p : Addr} {o : HO} (h : H p = none) : Kp H (upd H p o) := ⟨fun b xs e => by rw [upd_ne (ne_of_none e h)]; exact e, fun b q u e => by rw [upd_ne (ne_of_none e h)]; exact e⟩
theorem Kp.lst {H : Hp} {p : Addr} {xs : List V} {o : HO} (h : H p = some (.lst xs)) : Kp H (upd H p o) :=
  ⟨fun b ys e => by rw [upd_ne (ne_of e h (by intro z; cases z))]; exact e, fun b q u e => by rw [upd_ne (ne_of e h (by intro z; cases z))]; exact e⟩
theorem Kp.ins {H : Hp} {p C dx : Addr} {fs : List (Str × V)} {o : HO} (h : H p = some (.ins C dx fs)) : Kp H (upd H p o) :=
  ⟨fun b ys e => by rw [upd_ne (ne_of e h (by intro z; cases z))]; exact e, fun b q u e => by rw [upd_ne (ne_of e h (by intro z; cases z))]; exact e⟩
theorem Kp.dK {H : Hp} {p : Addr} {kvs : List (Key × V)} {o : HO} (h : H p = some (.dK kvs)) : Kp H (upd H p o) :=
  ⟨fun b ys e => by rw [upd_ne (ne_of e h (by intro z; cases z))]; exact e, fun b q u e => by rw [upd_ne (ne_of e h (by intro z; cases z))]; exact e⟩
theorem Lift.refl (μ : Nat → Addr) (N : Nat) (H : Hp) : Lift μ N H μ N H := ⟨Nat.le_refl _, fun _ _ => rfl, Kp.refl H, fun _ _ h _ => h, fun n h h' => absurd h (Nat.not_le.mpr h'), fun _ h => h⟩
theorem Lift.trans {μ μ1 μ2 : Nat → Addr} {N N1 N2 : Nat} {H H1 H2 : Hp} (a : Lift μ N H μ1 N1 H1) (b : Lift μ1 N1 H1 μ2 N2 H2) : Lift μ N H μ2 N2 H2 := by
  refine ⟨Nat.le_trans a.le b.le, fun n h => (b.same n (Nat.lt_of_lt_of_le h a.le)).trans (a.same n h), a.kp.trans b.kp, fun c o h hn => ?_, fun n h h' => ?_, fun c h => a.dom c (b.dom c h)⟩
  · refine b.fr c o (a.fr c o h hn) fun n hl e => ?_
    by_cases q : n < N
    · rw [a.same n q] at e
      exact hn n q e
    · have z := a.new n (Nat.le_of_not_lt q) hl
      rw [e, h] at z
      cases z
  · by_cases q : n < N1
    · rw [b.same n q]
      exact a.new n h q
    · exact a.dom _ (b.new n (Nat.le_of_not_lt q) h')
theorem dom_upd {H : Hp} {p b : Addr} {o : HO} (h : upd H p o b = none) : H b = none := by
  unfold upd at h
  split at h
  · cases h
  · exact h
theorem fr_fresh {H : Hp} {p : Addr} {o : HO} (h : H p = none) (b : Addr) (u : HO) (e : H b = some u) : upd H p o b = some u := by rw [upd_ne (ne_of_none e h)]; exact e
section
variable {K : PySem.W.Frag} {μ μ' : Nat → Addr} {N N' : Nat} {H H' : Hp}
theorem Kp.sqT (k : Kp H H') {a : Addr} {xs : List V} (h : SqT K H a xs) : SqT K H' a xs := by
  rcases h with (h | ⟨o, h⟩) | h
  · exact .inl (.inl (k.tup _ _ h))
  · exact .inl (.inr ⟨o, k.frz _ _ _ h⟩)
  · exact .inr h
theorem Kp.sqF (k : Kp H H') {a : Addr} {xs : List V} (h : SqF K H a xs) : SqF K H' a xs := by
  rcases h with ⟨o, h⟩ | h
  · exact .inl ⟨o, k.frz _ _ _ h⟩
  · exact .inr h
mutual
theorem DV.lift (l : Lift μ N H μ' N' H') : ∀ (d : D) (v : V), DV K μ N H d v → DV K μ' N' H' d v
  | .non, v, h => by unfold DV at h ⊢; exact h
  | .bl b, v, h => by unfold DV at h ⊢; exact h
  | .int i, v, h => by unfold DV at h ⊢; exact h
  | .str x, v, h => by unfold DV at h ⊢; exact h
  | .tup ds, v, h => by
    unfold DV at h ⊢
    obtain ⟨a, xs, e, q, r⟩ := h
    exact ⟨a, xs, e, l.kp.sqT q, DVs.lift l ds xs r⟩
  | .lst ds, v, h => by
    unfold DV at h ⊢
    obtain ⟨a, xs, e, q, r⟩ := h
    exact ⟨a, xs, e, l.kp.sqF q, DVs.lift l ds xs r⟩
  | .ref n, v, h => by
    unfold DV at h ⊢
    exact ⟨Nat.lt_of_lt_of_le h.1 l.le, by rw [l.same n h.1]; exact h.2⟩
  | .gl x, v, h => by unfold DV at h ⊢; exact h
  | .ty t, v, h => by unfold DV at h ⊢; exact h
theorem DVs.lift (l : Lift μ N H μ' N' H') : ∀ (ds : List D) (vs : List V), DVs K μ N H ds vs → DVs K μ' N' H' ds vs
  | [], vs, h => by unfold DVs at h ⊢; exact h
  | d :: ds, vs, h => by
    unfold DVs at h ⊢
    obtain ⟨v, r, e, h1, h2⟩ := h
    exact ⟨v, r, e, DV.lift l d v h1, DVs.lift l ds r h2⟩
end
theorem DVs.nil : DVs K μ N H [] [] := by unfold DVs; rfl
theorem DVs.cons {d : D} {v : V} {ds : List D} {vs : List V} (h : DV K μ N H d v) (t : DVs K μ N H ds vs) : DVs K μ N H (d :: ds) (v :: vs) := by
  unfold DVs; exact ⟨v, vs, rfl, h, t⟩
theorem DVs.length : ∀ {ds : List D} {vs : List V}, DVs K μ N H ds vs → vs.length = ds.length
  | [], vs, h => by unfold DVs at h; rw [h]; rfl
  | d :: ds, vs, h => by
    unfold DVs at h
    obtain ⟨v, r, e, h1, h2⟩ := h
    rw [e, List.length_cons, List.length_cons, DVs.length h2]
theorem DVs.append : ∀ {ds : List D} {vs : List V} {ds' : List D} {vs' : List V}, DVs K μ N H ds vs → DVs K μ N H ds' vs' → DVs K μ N H (ds ++ ds') (vs ++ vs')
  | [], vs, ds', vs', h, h' => by unfold DVs at h; rw [h]; exact h'
  | d :: ds, vs, ds', vs', h, h' => by
    unfold DVs at h
    obtain ⟨v, r, e, h1, h2⟩ := h
    rw [e]
    exact DVs.cons h1 (DVs.append h2 h')
theorem DVs.get : ∀ {ds : List D} {vs : List V} {i : Nat} {d : D}, DVs K μ N H ds vs → ds[i]? = some d → ∃ v, vs[i]? = some v ∧ DV K μ N H d v
  | [], vs, i, d, h, e => by simp at e
  | d0 :: ds, vs, 0, d, h, e => by
    unfold DVs at h
    obtain ⟨v, r, e1, h1, h2⟩ := h
    simp at e; subst e; subst e1
    exact ⟨v, rfl, h1⟩
  | d0 :: ds, vs, i + 1, d, h, e => by
    unfold DVs at h
    obtain ⟨v, r, e1, h1, h2⟩ := h
    subst e1
    exact DVs.get (i := i) h2 (by simpa using e)
theorem DVs.get' : ∀ {ds : List D} {vs : List V} {i : Nat} {v : V}, DVs K μ N H ds vs → vs[i]? = some v → ∃ d, ds[i]? = some d ∧ DV K μ N H d v
  | [], vs, i, d, h, e => by unfold DVs at h; subst h; simp at e
  | d0 :: ds, vs, 0, d, h, e => by
    unfold DVs at h
    obtain ⟨v, r, e1, h1, h2⟩ := h
    subst e1; simp at e; subst e
    exact ⟨d0, rfl, h1⟩
  | d0 :: ds, vs, i + 1, d, h, e => by
    unfold DVs at h
    obtain ⟨v, r, e1, h1, h2⟩ := h
    subst e1
    exact DVs.get' (i := i) h2 (by simpa using e)
theorem DVs.take : ∀ {ds : List D} {vs : List V} (n : Nat), DVs K μ N H ds vs → DVs K μ N H (ds.take n) (vs.take n)
  | _, _, 0, _ => by simpa using DVs.nil
  | [], vs, n + 1, h => by unfold DVs at h; subst h; simpa using DVs.nil
  | d :: ds, vs, n + 1, h => by
    unfold DVs at h
    obtain ⟨v, r, e, h1, h2⟩ := h
    subst e
    exact DVs.cons h1 (DVs.take n h2)
theorem DVs.drop : ∀ {ds : List D} {vs : List V} (n : Nat), DVs K μ N H ds vs → DVs K μ N H (ds.drop n) (vs.drop n)
  | _, _, 0, h => h
  | [], vs, n + 1, h => by unfold DVs at h; subst h; simpa using DVs.nil
  | d :: ds, vs, n + 1, h => by
    unfold DVs at h
    obtain ⟨v, r, e, h1, h2⟩ := h
    subst e
    exact DVs.drop n h2
theorem DVs.set {d : D} {v : V} (q : DV K μ N H d v) : ∀ {ds : List D} {vs : List V} (i : Nat), DVs K μ N H ds vs → DVs K μ N H (ds.set i d) (vs.set i v)
  | [], vs, i, h => by unfold DVs at h; subst h; simpa using DVs.nil
  | d0 :: ds, vs, 0, h => by
    unfold DVs at h
    obtain ⟨v0, r, e, h1, h2⟩ := h
    subst e
    exact DVs.cons q h2
  | d0 :: ds, vs, i + 1, h => by
    unfold DVs at h
    obtain ⟨v0, r, e, h1, h2⟩ := h
    subst e
    exact DVs.cons h1 (DVs.set q i h2)
theorem DVs.dropLast {ds : List D} {vs : List V} (h : DVs K μ N H ds vs) : DVs K μ N H ds.dropLast vs.dropLast := by
  rw [List.dropLast_eq_take, List.dropLast_eq_take, h.length]
  exact h.take _
theorem DVs.reverse : ∀ {ds : List D} {vs : List V}, DVs K μ N H ds vs → DVs K μ N H ds.reverse vs.reverse
  | [], vs, h => by unfold DVs at h; subst h; simpa using DVs.nil
  | d :: ds, vs, h => by
    unfold DVs at h
    obtain ⟨v, r, e, h1, h2⟩ := h
    subst e
    rw [List.reverse_cons, List.reverse_cons]
    exact DVs.append (DVs.reverse h2) (DVs.cons h1 DVs.nil)
theorem DVs.rep {ds : List D} {vs : List V} (h : DVs K μ N H ds vs) : ∀ n : Nat, DVs K μ N H (List.replicate n ds).flatten (List.replicate n vs).flatten
  | 0 => by simpa using DVs.nil
  | n + 1 => by
    rw [List.replicate_succ, List.replicate_succ, List.flatten_cons, List.flatten_cons]
    exact DVs.append h (DVs.rep h n)
theorem DVs.ints : ∀ {ns : List Int} {vs : List V}, DVs K μ N H (ns.map D.int) vs → vs = ns.map V.int
  | [], vs, h => by simp only [List.map_nil] at h ⊢; unfold DVs at h; exact h
  | n :: ns, vs, h => by
    rw [List.map_cons] at h ⊢
    unfold DVs at h
    obtain ⟨v, r, e, h1, h2⟩ := h
    unfold DV at h1
    rw [e, h1, DVs.ints h2]
theorem DVs.of_ints : ∀ (ns : List Int), DVs K μ N H (ns.map D.int) (ns.map V.int)
  | [] => DVs.nil
  | n :: ns => by rw [List.map_cons, List.map_cons]; exact DVs.cons (by unfold DV; rfl) (DVs.of_ints ns)
theorem DVs.bls : ∀ {ns : List Bool} {vs : List V}, DVs K μ N H (ns.map D.bl) vs → vs = ns.map V.bl
  | [], vs, h => by simp only [List.map_nil] at h ⊢; unfold DVs at h; exact h
  | n :: ns, vs, h => by
    rw [List.map_cons] at h ⊢
    unfold DVs at h
    obtain ⟨v, r, e, h1, h2⟩ := h
    unfold DV at h1
    rw [e, h1, DVs.bls h2]
theorem DVs.strs : ∀ {ns : List Str} {vs : List V}, DVs K μ N H (ns.map D.str) vs → vs = ns.map V.str
  | [], vs, h => by simp only [List.map_nil] at h ⊢; unfold DVs at h; exact h
  | n :: ns, vs, h => by
    rw [List.map_cons] at h ⊢
    unfold DVs at h
    obtain ⟨v, r, e, h1, h2⟩ := h
    unfold DV at h1
    rw [e, h1, DVs.strs h2]
theorem DVs.of_strs : ∀ (ns : List Str), DVs K μ N H (ns.map D.str) (ns.map V.str)
  | [] => DVs.nil
  | n :: ns => by rw [List.map_cons, List.map_cons]; exact DVs.cons (by unfold DV; rfl) (DVs.of_strs ns)
theorem DVs.inv_cons {d : D} {ds : List D} {vs : List V} (h : DVs K μ N H (d :: ds) vs) : ∃ v r, vs = v :: r ∧ DV K μ N H d v ∧ DVs K μ N H ds r := by unfold DVs at h; exact h
theorem DVs.inv_nil {vs : List V} (h : DVs K μ N H [] vs) : vs = [] := by unfold DVs at h; exact h
end
/-! ### the memory -/
section
variable (K : PySem.W.Frag)
/-- fields -/
def FV (μ : Nat → Addr) (N : Nat) (H : Hp) : List (Str × D) → List (Str × V) → Prop
  | [], fs => fs = []
  | p :: ps, fs => ∃ v r, fs = (p.1, v) :: r ∧ DV K μ N H p.2 v ∧ FV μ N H ps r
def KVs (μ : Nat → Addr) (N : Nat) (H : Hp) : List (Key × D) → List (Key × V) → Prop
  | [], fs => fs = []
  | p :: ps, fs => ∃ v r, fs = (p.1, v) :: r ∧ DV K μ N H p.2 v ∧ KVs μ N H ps r
def OV (μ : Nat → Addr) (N : Nat) (H : Hp) (a : Addr) : MO → Prop
  | .lst ds => ∃ xs, H a = some (.lst xs) ∧ DVs K μ N H ds xs
  | .dic kvs => ∃ ps, H a = some (.dK ps) ∧ KVs K μ N H kvs ps
  | .ins c fs => ∃ dx gs, H a = some (.ins (He.ga K c) dx gs) ∧ FV K μ N H fs gs
structure Rel (μ : Nat → Addr) (M : Mem) (H : Hp) : Prop where
  obj : ∀ n o, M[n]? = some o → OV K μ M.length H (μ n) o
  inj : ∀ i j, i < M.length → j < M.length → μ i = μ j → i = j
/-- the names' values -/
structure EV (μ : Nat → Addr) (N : Nat) (H : Hp) (ρ : En) (σ : L2.St) : Prop where
  len : σ.length = ρ.length
  at_ : ∀ (i : Nat) d, ρ[i]? = some (some d) → ∃ v, σ[i]? = some (some v) ∧ DV K μ N H d v
/-- an exception -/
def XV (μ : Nat → Addr) (N : Nat) (H : Hp) (e : Exn) (cls : Value) (dd : Option Addr) : Prop :=
  (match e.cls with
    | .gl x => cls = .ref (He.ga K x)
    | .ty t => cls = .type t
    | _ => False) ∧
  (match e.fs with
    | none => dd = none
    | some fs => ∃ a gs, dd = some a ∧ H a = some (.xd gs) ∧ FV K μ N H fs gs)
end
section
variable {K : PySem.W.Frag} {μ μ' : Nat → Addr} {N N' : Nat} {H H' : Hp}
theorem FV.lift (l : Lift μ N H μ' N' H') : ∀ {ps : List (Str × D)} {fs : List (Str × V)}, FV K μ N H ps fs → FV K μ' N' H' ps fs
  | [], fs, h => h
  | p :: ps, fs, h => let ⟨v, r, e, h1, h2⟩ := h; ⟨v, r, e, h1.lift l, FV.lift l h2⟩
theorem KVs.lift (l : Lift μ N H μ' N' H') : ∀ {ps : List (Key × D)} {fs : List (Key × V)}, KVs K μ N H ps fs → KVs K μ' N' H' ps fs
  | [], fs, h => h
  | p :: ps, fs, h => let ⟨v, r, e, h1, h2⟩ := h; ⟨v, r, e, h1.lift l, KVs.lift l h2⟩
theorem EV.lift (l : Lift μ N H μ' N' H') {ρ : En} {σ : L2.St} (h : EV K μ N H ρ σ) : EV K μ' N' H' ρ σ :=
  ⟨h.len, fun i d e => let ⟨v, e1, e2⟩ := h.at_ i d e; ⟨v, e1, e2.lift l⟩⟩
theorem EV.set {ρ : En} {σ : L2.St} (h : EV K μ N H ρ σ) {d : D} {v : V} (q : DV K μ N H d v) (i : Nat) : EV K μ N H (ρ.set i (some d)) (σ.set i (some v)) := by
  refine ⟨by rw [List.length_set, List.length_set]; exact h.len, fun j e hj => ?_⟩
  by_cases hij : i = j
  · subst hij
    have hl : i < ρ.length := by
      have := (List.getElem?_eq_some_iff.mp hj).1
      simpa using this
    rw [List.getElem?_set_self hl] at hj
    cases hj
    exact ⟨v, List.getElem?_set_self (by rw [h.len]; exact hl), q⟩
  · rw [List.getElem?_set_ne hij] at hj
    obtain ⟨w, e1, e2⟩ := h.at_ j e hj
    exact ⟨w, by rw [List.getElem?_set_ne hij]; exact e1, e2⟩
/-- the same memory over a heap that keeps what is tracked -/
theorem OV.lift {a : Addr} {o : MO} (l : Lift μ N H μ' N' H') (e : ∀ u, H a = some u → H' a = some u) (h : OV K μ N H a o) : OV K μ' N' H' a o := by
  cases o with
  | lst ds => obtain ⟨xs, h1, h2⟩ := h; exact ⟨xs, e _ h1, h2.lift l⟩
  | dic kvs => obtain ⟨xs, h1, h2⟩ := h; exact ⟨xs, e _ h1, h2.lift l⟩
  | ins c fs => obtain ⟨dx, xs, h1, h2⟩ := h; exact ⟨dx, xs, e _ h1, h2.lift l⟩
theorem OV.some {a : Addr} {o : MO} (h : OV K μ N H a o) : ∃ u, H a = some u ∧ (∀ q, u ≠ .tup q) ∧ ∀ q r, u ≠ .frz q r := by
  cases o with
  | lst ds => obtain ⟨xs, h1, h2⟩ := h; exact ⟨_, h1, (fun _ z => nomatch z), (fun _ _ z => nomatch z)⟩
  | dic kvs => obtain ⟨xs, h1, h2⟩ := h; exact ⟨_, h1, (fun _ z => nomatch z), (fun _ _ z => nomatch z)⟩
  | ins c fs => obtain ⟨dx, xs, h1, h2⟩ := h; exact ⟨_, h1, (fun _ z => nomatch z), (fun _ _ z => nomatch z)⟩
theorem Rel.some {M : Mem} (r : Rel K μ M H) {n : Nat} (hn : n < M.length) : ∃ u, H (μ n) = some u ∧ (∀ q, u ≠ .tup q) ∧ ∀ q s, u ≠ .frz q s := (r.obj n M[n] (by simp [hn])).some
theorem Rel.ne {M : Mem} (r : Rel K μ M H) {n : Nat} (hn : n < M.length) {p : Addr} (h : H p = none) : μ n ≠ p := by
  obtain ⟨u, e, _⟩ := r.some hn
  exact ne_of_none e h
theorem Lift.fresh {N : Nat} {p : Addr} {o : HO} (h : H p = none) : Lift μ N H μ N (upd H p o) :=
  ⟨Nat.le_refl _, fun _ _ => rfl, Kp.fresh h, fun b u e _ => fr_fresh h b u e, fun n h h' => absurd h (Nat.not_le.mpr h'), fun b e => dom_upd e⟩
/-- a new thing that the memory does not hold -/
theorem Rel.fresh {M : Mem} (r : Rel K μ M H) {p : Addr} {o : HO} (h : H p = none) : Rel K μ M (upd H p o) :=
  ⟨fun n o' e => (r.obj n o' e).lift (Lift.fresh h) fun u q => by rw [upd_ne (ne_of_none q h)]; exact q, r.inj⟩
def ext (μ : Nat → Addr) (N : Nat) (p : Addr) : Nat → Addr := fun n => if n = N then p else μ n
theorem Lift.alloc {M : Mem} {p : Addr} {o : HO} {m : MO} (h : H p = none) : Lift μ M.length H (ext μ M.length p) (M ++ [m]).length (upd H p o) :=
  ⟨by simp, fun n hn => if_neg (Nat.ne_of_lt hn), Kp.fresh h, fun b u e _ => fr_fresh h b u e, fun n h1 h2 => (by
    rw [List.length_append, List.length_singleton] at h2
    have e : n = M.length := by omega
    unfold ext
    rw [if_pos e]
    exact h), fun b e => dom_upd e⟩
/-- a new object of the memory -/
theorem Rel.alloc {M : Mem} (r : Rel K μ M H) {p : Addr} {o : HO} {m : MO} (h : H p = none) (new : OV K (ext μ M.length p) (M ++ [m]).length (upd H p o) p m) : Rel K (ext μ M.length p) (M ++ [m]) (upd H p o) := by
  refine ⟨fun n o' e => ?_, fun i j hi hj e => ?_⟩
  · by_cases hn : n < M.length
    · rw [List.getElem?_append_left hn] at e
      have q := (r.obj n o' e).lift (Lift.alloc (o := o) (m := m) h) (fun u z => by rw [upd_ne (ne_of_none z h)]; exact z)
      have e2 : ext μ M.length p n = μ n := if_neg (Nat.ne_of_lt hn)
      rw [e2]; exact q
    · have hl := (List.getElem?_eq_some_iff.mp e).1
      rw [List.length_append, List.length_singleton] at hl
      have hn' : n = M.length := by omega
      subst hn'
      rw [List.getElem?_append_right (Nat.le_refl _), Nat.sub_self] at e
      have e1 : m = o' := Option.some.inj e
      subst e1
      have e2 : ext μ M.length p M.length = p := if_pos rfl
      rw [e2]; exact new
  · rw [List.length_append, List.length_singleton] at hi hj
    unfold ext at e
    by_cases h1 : i = M.length
    · by_cases h2 : j = M.length
      · omega
      · rw [if_pos h1, if_neg h2] at e
        exact absurd e.symm (r.ne (by omega) h)
    · by_cases h2 : j = M.length
      · rw [if_neg h1, if_pos h2] at e
        exact absurd e (r.ne (by omega) h)
      · rw [if_neg h1, if_neg h2] at e
        exact r.inj i j (by omega) (by omega) e
/-- an object of the memory is written -/
theorem Rel.put {M : Mem} (r : Rel K μ M H) {n : Nat} (hn : n < M.length) {o : HO} {m : MO} (new : OV K μ M.length (upd H (μ n) o) (μ n) m) : Rel K μ (M.set n m) (upd H (μ n) o) ∧ Lift μ M.length H μ (M.set n m).length (upd H (μ n) o) := by
  have l : Lift μ M.length H μ M.length (upd H (μ n) o) := ⟨Nat.le_refl _, fun _ _ => rfl, ⟨fun b xs e => by
      obtain ⟨u, hu, h1, h2⟩ := r.some hn
      rw [upd_ne (ne_of e hu (fun z => h1 xs z.symm))]; exact e, fun b q s e => by
      obtain ⟨u, hu, h1, h2⟩ := r.some hn
      rw [upd_ne (ne_of e hu (fun z => h2 q s z.symm))]; exact e⟩, fun b u e hne => by rw [upd_ne (fun z => hne n hn z.symm)]; exact e, fun n h h' => absurd h (Nat.not_le.mpr h'), fun b e => dom_upd e⟩
  refine ⟨⟨fun i o' e => ?_, fun i j hi hj e => r.inj i j (by simpa using hi) (by simpa using hj) e⟩, by rw [List.length_set]; exact l⟩
  rw [List.length_set]
  by_cases hi : n = i
  · subst hi
    rw [List.getElem?_set_self hn] at e
    cases e
    exact new
  · rw [List.getElem?_set_ne hi] at e
    have hil := (List.getElem?_eq_some_iff.mp e).1
    refine (r.obj i o' e).lift l fun u z => ?_
    rw [upd_ne (fun q => hi (r.inj n i hn hil q.symm))]
    exact z
end
/-! ### meanings -/
section
variable (K : PySem.W.Frag)
/-- what is wanted of a result -/
def Ans {α β : Type} (rel : (Nat → Addr) → Nat → Hp → α → β → Prop) (W : Value → Option Addr → Hp → Prop) (μ : Nat → Addr) (N : Nat) (H : Hp) (r : R α) (Q : β → Hp → Prop) : Prop := match r with
  | .ok d M' => ∀ μ' H' v, Lift μ N H μ' M'.length H' → Rel K μ' M' H' → rel μ' M'.length H' d v → Q v H'
  | .ex e M' => ∀ μ' H' cls dd, Lift μ N H μ' M'.length H' → Rel K μ' M' H' → XV K μ' M'.length H' e cls dd → W cls dd H'
  | .no => False
def tM {α β : Type} (rel : (Nat → Addr) → Nat → Hp → α → β → Prop) (W : WX) (f : En → Mem → R α) : L2.St → Hp → (β → Hp → Prop) → Prop := fun σ H Q =>
  ∃ μ M ρ, Rel K μ M H ∧ EV K μ M.length H ρ σ ∧ Ans K rel (fun c d H' => W c d σ H') μ M.length H (f ρ M) Q
end
section
variable {K : PySem.W.Frag} {α β γ δ : Type} {rel : (Nat → Addr) → Nat → Hp → α → β → Prop} {rel2 : (Nat → Addr) → Nat → Hp → γ → δ → Prop} {W : Value → Option Addr → Hp → Prop} {μ μ1 : Nat → Addr} {N N1 : Nat} {H H1 : Hp}
theorem Ans.rebase {r : R α} {Q : β → Hp → Prop} (l : Lift μ N H μ1 N1 H1) (h : Ans K rel W μ N H r Q) : Ans K rel W μ1 N1 H1 r Q := by
  cases r with
  | ok d M => exact fun μ' H' v l' r' q => h μ' H' v (l.trans l') r' q
  | ex e M => exact fun μ' H' c d l' r' q => h μ' H' c d (l.trans l') r' q
  | no => exact h
theorem Ans.mono {r : R α} {Q Q' : β → Hp → Prop} {W' : Value → Option Addr → Hp → Prop} (hQ : ∀ v H', Q v H' → Q' v H') (hW : ∀ c d H', W c d H' → W' c d H') (h : Ans K rel W μ N H r Q) : Ans K rel W' μ N H r Q' := by
  cases r with
  | ok d M => exact fun μ' H' v l' r' q => hQ _ _ (h μ' H' v l' r' q)
  | ex e M => exact fun μ' H' c d l' r' q => hW _ _ _ (h μ' H' c d l' r' q)
  | no => exact h
/-- one after another -/
theorem Ans.bind {r : R α} {g : α → Mem → R γ} {Q : δ → Hp → Prop} (h : Ans K rel2 W μ N H (r.bind g) Q) :
    Ans K rel W μ N H r (fun v H1 => ∃ μ1 M1 d, Lift μ N H μ1 M1.length H1 ∧ Rel K μ1 M1 H1 ∧ rel μ1 M1.length H1 d v ∧ Ans K rel2 W μ1 M1.length H1 (g d M1) Q) := by
  cases r with
  | ok d M => exact fun μ' H' v l' r' q => ⟨μ', M, d, l', r', q, Ans.rebase l' h⟩
  | ex e M => exact h
  | no => exact h
end
end Br
set_option Elab.async false
set_option linter.all false
set_option maxRecDepth 100000
set_option maxHeartbeats 4000000
namespace Br
open PySem PySem.Spec PyProof.Rows L2
theorem PE.weak {X : Cx} {e : Expr} {t t' : TE} (h : PE X e t) (w : ∀ σ H Q, t' σ H Q → t σ H Q) : PE X e t' := ⟨fun pins s σ H Q I hw => h.run pins s σ H Q I (w σ H Q hw)⟩
theorem PT.weak {X : Cx} {e : Expr} {t t' : TT} (h : PT X e t) (w : ∀ σ H Q, t' σ H Q → t σ H Q) : PT X e t' := ⟨fun pins s σ H Q I hw => h.run pins s σ H Q I (w σ H Q hw)⟩
theorem PA.weak {X : Cx} {e : List Expr} {t t' : TA} (h : PA X e t) (w : ∀ σ H Q, t' σ H Q → t σ H Q) : PA X e t' := ⟨fun p pins s σ H Q I hw => h.run p pins s σ H Q I (w σ H Q hw)⟩
theorem PS.weak {X : Cx} {e : Stmt} {t t' : TS} (h : PS X e t) (w : ∀ D σ H, t' D σ H → t D σ H) : PS X e t' := ⟨fun pins s σ H D I hw => h.run pins s σ H D I (w D σ H hw)⟩
theorem PSs.weak {X : Cx} {e : List Stmt} {t t' : TS} (h : PSs X e t) (w : ∀ D σ H, t' D σ H → t D σ H) : PSs X e t' := ⟨fun pins s σ H D I hw => h.run pins s σ H D I (w D σ H hw)⟩
/-- bools as they are -/
def BV (μ : Nat → Addr) (N : Nat) (H : Hp) (a b : Bool) : Prop := a = b
/-- an expression means f (W: the wish of an exception) -/
def ME (X : Cx) (W : WX) (e : Expr) (f : FE) : Prop := PE X e (tM X.K (DV X.K) W f)
def MA (X : Cx) (W : WX) (es : List Expr) (f : FA) : Prop := PA X es (tM X.K (DVs X.K) W f)
def MT (X : Cx) (W : WX) (e : Expr) (f : FT) : Prop := PT X e (tM X.K BV W f)
section
variable {K : PySem.W.Frag} {α β γ δ : Type} {rel : (Nat → Addr) → Nat → Hp → α → β → Prop} {rel2 : (Nat → Addr) → Nat → Hp → γ → δ → Prop} {W : WX} {σ : L2.St} {H : Hp}
/-- one, then another -/
theorem tM.seq {f : En → Mem → R α} {g : En → α → Mem → R γ} {Q : δ → Hp → Prop} (h : tM K rel2 W (fun ρ M => (f ρ M).bind (g ρ)) σ H Q) :
    tM K rel W f σ H (fun v H1 => ∃ μ M ρ d, Rel K μ M H1 ∧ EV K μ M.length H1 ρ σ ∧ rel μ M.length H1 d v ∧ Ans K rel2 (fun c d H' => W c d σ H') μ M.length H1 (g ρ d M) Q) := by
  obtain ⟨μ, M, ρ, r, e, a⟩ := h
  refine ⟨μ, M, ρ, r, e, ?_⟩
  refine Ans.mono (fun v H1 ⟨μ1, M1, d, l, r1, q, a1⟩ => ⟨μ1, M1, ρ, d, r1, e.lift l, q, a1⟩) (fun _ _ _ z => z) (Ans.bind (rel := rel) a)
theorem tM.mono {f : En → Mem → R α} {Q Q' : β → Hp → Prop} (hQ : ∀ v H', Q v H' → Q' v H') (h : tM K rel W f σ H Q) : tM K rel W f σ H Q' := by
  obtain ⟨μ, M, ρ, r, e, a⟩ := h
  exact ⟨μ, M, ρ, r, e, a.mono hQ fun _ _ _ z => z⟩
end
/-- a two-place operation by data -/
abbrev F2 := D → D → Mem → R D
abbrev F1 := D → Mem → R D
abbrev FL := List D → Mem → R D
abbrev W0 := Value → Option Addr → Hp → Prop
def r2 (K : PySem.W.Frag) (W : W0) (g : F2) : R2 := fun x y H Q => ∃ μ M a b, Rel K μ M H ∧ DV K μ M.length H a x ∧ DV K μ M.length H b y ∧ Ans K (DV K) W μ M.length H (g a b M) Q
def r1 (K : PySem.W.Frag) (W : W0) (g : F1) : V → Hp → VK → Prop := fun x H Q => ∃ μ M a, Rel K μ M H ∧ DV K μ M.length H a x ∧ Ans K (DV K) W μ M.length H (g a M) Q
def rL (K : PySem.W.Frag) (W : W0) (g : FL) : List V → Hp → VK → Prop := fun xs H Q => ∃ μ M as, Rel K μ M H ∧ DVs K μ M.length H as xs ∧ Ans K (DV K) W μ M.length H (g as M) Q
def rM (K : PySem.W.Frag) (W : W0) (g : D → FL) : V → List V → Hp → VK → Prop := fun x xs H Q => ∃ μ M a as, Rel K μ M H ∧ DV K μ M.length H a x ∧ DVs K μ M.length H as xs ∧ Ans K (DV K) W μ M.length H (g a as M) Q
def OpM (X : Cx) (f : Value → Value → Sem Value) (g : F2) : Prop := ∀ W, OpR X f (r2 X.K W g)
def UnM (X : Cx) (f : Value → Sem Value) (g : F1) : Prop := ∀ W, UnR X f (r1 X.K W g)
def CallM (X : Cx) (f : Value) (g : FL) : Prop := ∀ W, CallR X f (rL X.K W g)
def MtM (X : Cx) (id : String) (g : D → FL) : Prop := ∀ W, MtR X id (rM X.K W g)
def IxM (X : Cx) (g : F2) : Prop := ∀ W, IxR X (r2 X.K W g)

/-! ### combinators -/
def eV (i : Nat) : FE := fun ρ M => match ρ[i]? with
  | some (some d) => .ok d M
  | _ => .no
def eC (d : D) : FE := fun _ M => .ok d M
def e1 (g : F1) (a : FE) : FE := fun ρ M => (a ρ M).bind g
def e2 (g : F2) (a b : FE) : FE := fun ρ M => (a ρ M).bind fun x M1 => (b ρ M1).bind fun y M2 => g x y M2
def eL (g : FL) (a : FA) : FE := fun ρ M => (a ρ M).bind g
def eM (g : D → FL) (a : FE) (as : FA) : FE := fun ρ M => (a ρ M).bind fun x M1 => (as ρ M1).bind fun xs M2 => g x xs M2
def aN : FA := fun _ M => .ok [] M
def aC (a : FE) (r : FA) : FA := fun ρ M => (a ρ M).bind fun x M1 => (r ρ M1).bind fun xs M2 => .ok (x :: xs) M2
section
variable {X : Cx} {W : WX} {e a b : Expr} {es : List Expr} {f fa fb : FE} {g : FA} {pos : Pos}
theorem me_v (i : Nat) {x : Str} (hN : X.N[i]? = some x := by rfl) (hv : Vis X.env.scope x := by first | exact Or.inl rfl | exact Or.inr (Or.inl rfl) | exact Or.inr (Or.inr rfl)) (hd : (x == ("__debug__" : Str)) = false := by decide)
    (hcd : (x == ("__classdict__" : Str)) = false := by decide) : ME X W (.Name x pos) (eV i) := by
  refine PE.weak (pe_var hN hv hd hcd) fun σ H Q ⟨μ, M, ρ, r, e, q⟩ => ?_
  unfold eV at q
  cases h : ρ[i]? with
  | none => rw [h] at q; exact q.elim
  | some o =>
    cases o with
    | none => rw [h] at q; exact q.elim
    | some d =>
      rw [h] at q
      obtain ⟨v, h1, h2⟩ := e.at_ i d h
      exact ⟨v, h1, q μ H v (Lift.refl ..) r h2⟩
theorem me_int {i : Int} {j : Nat} : ME X W (.Constant (.int i) j pos) (eC (.int i)) :=
  PE.weak pe_int fun σ H Q ⟨μ, M, ρ, r, e, q⟩ => q μ H _ (Lift.refl ..) r (by unfold DV; rfl)
theorem me_bl {i : Bool} {j : Nat} : ME X W (.Constant (.bool i) j pos) (eC (.bl i)) :=
  PE.weak pe_bl fun σ H Q ⟨μ, M, ρ, r, e, q⟩ => q μ H _ (Lift.refl ..) r (by unfold DV; rfl)
theorem me_non {j : Nat} : ME X W (.Constant .none j pos) (eC .non) :=
  PE.weak pe_non fun σ H Q ⟨μ, M, ρ, r, e, q⟩ => q μ H _ (Lift.refl ..) r (by unfold DV; rfl)
theorem me_str {x : Str} {j : Nat} : ME X W (.Constant (.str x) j pos) (eC (.str x)) :=
  PE.weak pe_str fun σ H Q ⟨μ, M, ρ, r, e, q⟩ => q μ H _ (Lift.refl ..) r (by unfold DV; rfl)
/-- a global's value that is a text, an int -/
theorem me_gstr {x z : Str} (hg : Gl X x) (hm : ∃ t, X.mg x = some (.str z t)) (hd : (x == ("__debug__" : Str)) = false := by decide) : ME X W (.Name x pos) (eC (.str z)) := by
  obtain ⟨t, hm⟩ := hm
  exact PE.weak (pe_glob hg hm (v := .str z) ⟨t, rfl⟩ hd) fun σ H Q ⟨μ, M, ρ, r, e, q⟩ => q μ H _ (Lift.refl ..) r (by unfold DV; rfl)
theorem me_gint {x : Str} {z : Int} (hg : Gl X x) (hm : ∃ t, X.mg x = some (.int z t)) (hd : (x == ("__debug__" : Str)) = false := by decide) : ME X W (.Name x pos) (eC (.int z)) := by
  obtain ⟨t, hm⟩ := hm
  exact PE.weak (pe_glob hg hm (v := .int z) ⟨t, rfl⟩ hd) fun σ H Q ⟨μ, M, ρ, r, e, q⟩ => q μ H _ (Lift.refl ..) r (by unfold DV; rfl)
theorem me_gl {x : Str} (hg : Gl X x) (hm : X.mg x = some (.ref (He.ga X.K x))) (hd : (x == ("__debug__" : Str)) = false := by decide) : ME X W (.Name x pos) (eC (.gl x)) :=
  PE.weak (pe_glob hg hm (v := .ref (He.ga X.K x)) rfl hd) fun σ H Q ⟨μ, M, ρ, r, e, q⟩ => q μ H _ (Lift.refl ..) r (by unfold DV; rfl)
theorem me_ty {x : Str} {T : String} (hg : Gl X x) (hm : X.mg x = none) (hv : bootBuiltins x = some (.type T)) (hn : x ≠ "__name__" := by decide) (hd : (x == ("__debug__" : Str)) = false := by decide) : ME X W (.Name x pos) (eC (.ty T)) :=
  PE.weak (pe_bltn hg hm hv (v := .ty T) rfl hn hd) fun σ H Q ⟨μ, M, ρ, r, e, q⟩ => q μ H _ (Lift.refl ..) r (by unfold DV; rfl)
/-- a global tuple of the module -/
theorem me_gtup {x : Str} {ds : List D} (hg : Gl X x) (hm : X.mg x = some (.ref (He.ga X.K x))) (ht : ∀ (μ : Nat → Addr) (N : Nat) (H : Hp), ∃ vs, SqT X.K H (He.ga X.K x) vs ∧ DVs X.K μ N H ds vs) (hd : (x == ("__debug__" : Str)) = false := by decide) :
    ME X W (.Name x pos) (eC (.tup ds)) :=
  PE.weak (pe_glob hg hm (v := .ref (He.ga X.K x)) rfl hd) fun σ H Q ⟨μ, M, ρ, r, e, q⟩ => q μ H _ (Lift.refl ..) r (by
    obtain ⟨vs, h1, h2⟩ := ht μ M.length H
    unfold DV; exact ⟨_, vs, rfl, h1, h2⟩)
theorem me_op {op : Operator} {g : F2} (ho : OpM X (binaryOp op) g) (ha : ME X W a fa) (hb : ME X W b fb) : ME X W (.BinOp a op b pos) (e2 g fa fb) := by
  refine ⟨fun pins s σ H Q I h => ?_⟩
  refine (pe_op (ho (fun c d H' => W c d σ H')) ha hb).run pins s σ H Q I ?_
  refine tM.mono (fun v H1 ⟨μ, M, ρ, d, r, e, q, a1⟩ => ?_) (tM.seq (rel := DV X.K) h)
  have a2 := Ans.bind (rel := DV X.K) a1
  refine ⟨μ, M, ρ, r, e, a2.mono (fun u H2 ⟨μ1, M1, d1, l, r1, q1, a3⟩ => ⟨μ1, M1, d, d1, r1, q.lift l, q1, a3⟩) fun _ _ _ z => z⟩
theorem me_cmp {op : CmpOp} {g : F2} (ho : OpM X (compareOp op) g) (ha : ME X W a fa) (hb : ME X W b fb) (hm : behindInMarks op b = false) : ME X W (.Compare a [op] [b] pos) (e2 g fa fb) := by
  refine ⟨fun pins s σ H Q I h => ?_⟩
  refine (pe_cmpR (ho (fun c d H' => W c d σ H')) ha hb hm).run pins s σ H Q I ?_
  refine tM.mono (fun v H1 ⟨μ, M, ρ, d, r, e, q, a1⟩ => ?_) (tM.seq (rel := DV X.K) h)
  have a2 := Ans.bind (rel := DV X.K) a1
  refine ⟨μ, M, ρ, r, e, a2.mono (fun u H2 ⟨μ1, M1, d1, l, r1, q1, a3⟩ => ⟨μ1, M1, d, d1, r1, q.lift l, q1, a3⟩) fun _ _ _ z => z⟩
theorem me_ix {g : F2} (ho : IxM X g) (ha : ME X W a fa) (hb : ME X W b fb) (hs : PlainIx b) : ME X W (.Subscript a b pos) (e2 g fa fb) := by
  refine ⟨fun pins s σ H Q I h => ?_⟩
  refine (pe_ix (ho (fun c d H' => W c d σ H')) ha hb hs).run pins s σ H Q I ?_
  refine tM.mono (fun v H1 ⟨μ, M, ρ, d, r, e, q, a1⟩ => ?_) (tM.seq (rel := DV X.K) h)
  have a2 := Ans.bind (rel := DV X.K) a1
  refine ⟨μ, M, ρ, r, e, a2.mono (fun u H2 ⟨μ1, M1, d1, l, r1, q1, a3⟩ => ⟨μ1, M1, d, d1, r1, q.lift l, q1, a3⟩) fun _ _ _ z => z⟩
theorem me_un {op : UnaryOp} {g : F1} (ho : UnM X (unaryOp op) g) (ha : ME X W a fa) : ME X W (.UnaryOp op a pos) (e1 g fa) := by
  refine ⟨fun pins s σ H Q I h => ?_⟩
  refine (pe_un (ho (fun c d H' => W c d σ H')) ha).run pins s σ H Q I ?_
  exact tM.mono (fun v H1 ⟨μ, M, ρ, d, r, e, q, a1⟩ => ⟨μ, M, d, r, q, a1⟩) (tM.seq (rel := DV X.K) h)
theorem ma_nil : MA X W [] aN := PA.weak pa_nil fun σ H Q ⟨μ, M, ρ, r, e, q⟩ => q μ H [] (Lift.refl ..) r DVs.nil
theorem ma_cons (ha : ME X W a fa) (hr : MA X W es g) (hs : starEach (a :: es) X.env = (false, eval a X.env) :: starEach es X.env := by rfl) : MA X W (a :: es) (aC fa g) := by
  refine PA.weak (pa_cons ha hr hs) fun σ H Q h => ?_
  refine tM.mono (fun v H1 ⟨μ, M, ρ, d, r, e, q, a1⟩ => ?_) (tM.seq (rel := DV X.K) h)
  have a2 := Ans.bind (rel := DVs X.K) a1
  refine ⟨μ, M, ρ, r, e, a2.mono (fun u H2 ⟨μ1, M1, d1, l, r1, q1, a3⟩ => ?_) fun _ _ _ z => z⟩
  exact a3 μ1 H2 _ (Lift.refl ..) r1 (DVs.cons (q.lift l) q1)
/-- tuples, lists by value, lists of the memory -/
def gTup : FL := fun ds M => if ds.length ≤ sizeLine then .ok (.tup ds) M else .no
def gLst : FL := fun ds M => if ds.length ≤ sizeLine then .ok (.lst ds) M else .no
def gNew : FL := fun ds M => if ds.length ≤ sizeLine then .ok (.ref M.length) (M ++ [.lst ds]) else .no
theorem ans_tup {K : PySem.W.Frag} {μ : Nat → Addr} {M : Mem} {H : Hp} {W : W0} {ds : List D} {vs : List V} {Q : VK} (r : Rel K μ M H) (q : DVs K μ M.length H ds vs) (a : Ans K (DV K) W μ M.length H (.ok (.tup ds) M) Q) (p : Addr) (hp : H p = none) : Q (.ref p) (upd H p (.tup vs)) := by
  refine a μ _ _ (Lift.fresh hp) (r.fresh hp) ?_
  unfold DV
  exact ⟨p, vs, rfl, SqT.of upd_same, q.lift (Lift.fresh hp)⟩
theorem ans_new {K : PySem.W.Frag} {μ : Nat → Addr} {M : Mem} {H : Hp} {W : W0} {ds : List D} {vs : List V} {Q : VK} (r : Rel K μ M H) (q : DVs K μ M.length H ds vs) (a : Ans K (DV K) W μ M.length H (.ok (.ref M.length) (M ++ [.lst ds])) Q) (p : Addr) (hp : H p = none) : Q (.ref p) (upd H p (.lst vs)) := by
  have l : Lift μ M.length H (ext μ M.length p) (M ++ [MO.lst ds]).length (upd H p (.lst vs)) := Lift.alloc hp
  refine a _ _ _ l (r.alloc hp ⟨vs, upd_same, q.lift l⟩) ?_
  unfold DV
  exact ⟨by simp, by unfold ext; rw [if_pos rfl]⟩
theorem me_tup {k : Nat} (h : MA X W es g) : ME X W (.Tuple es k pos) (eL gTup g) := by
  refine PE.weak (pe_tup h) fun σ H Q hw => ?_
  refine tM.mono (fun v H1 ⟨μ, M, ρ, d, r, e, q, a1⟩ => ?_) (tM.seq (rel := DVs X.K) hw)
  unfold gTup at a1
  split at a1
  · rename_i hl
    exact ⟨by rw [q.length]; exact hl, fun p hp => ans_tup r q a1 p hp⟩
  · exact a1.elim
theorem me_new (h : MA X W es g) : ME X W (.List es pos) (eL gNew g) := by
  refine PE.weak (pe_lst h) fun σ H Q hw => ?_
  refine tM.mono (fun v H1 ⟨μ, M, ρ, d, r, e, q, a1⟩ => ?_) (tM.seq (rel := DVs X.K) hw)
  unfold gNew at a1
  split at a1
  · rename_i hl
    exact ⟨by rw [q.length]; exact hl, fun p hp => ans_new r q a1 p hp⟩
  · exact a1.elim
/-- a list is locked for good -/
theorem Inv.lock {pins : List (Addr × Obj)} {σ : L2.St} {H : Hp} {s : Shared} {a : Addr} {xs : List V} (I : Inv X pins σ H s) (h : H a = some (.lst xs)) : ∃ o, Inv X pins σ (upd H a (.frz o (.lst xs))) s := by
  obtain ⟨z, its, n, r, e⟩ := I.hok a _ h
  have mu : Mut (H a) := by rw [h]; trivial
  have J := I.write (x := a) (e := a) (o := .frz { cls := .type "list", data := .seq its.toArray n } (.lst xs)) (h' := s.heap) (t' := s.toks) mu (.inl rfl) (fun b u _ q => q) ⟨_, e⟩ ⟨e, z, its, n, r, e⟩
  exact ⟨_, J⟩
theorem PE.lock {t : TE} (h : PE X e t) : PE X e (fun σ H Q => t σ H fun x H1 => ∃ a xs, x = .ref a ∧ H1 a = some (.lst xs) ∧ ∀ o, Q x (upd H1 a (.frz o (.lst xs)))) := by
  refine ⟨fun pins s σ H Q I hw => thn (h.run pins s σ H _ I hw) fun u s1 ⟨v, H1, I1, rv, a, xs, e1, e2, q⟩ => ?_⟩
  obtain ⟨o, J⟩ := Inv.lock I1 e2
  exact ⟨v, _, J, rv, q o⟩
theorem upd2 {H : Hp} {p : Addr} {o u : HO} : upd (upd H p o) p u = upd H p u := upd_upd
theorem ans_lst {K : PySem.W.Frag} {μ : Nat → Addr} {M : Mem} {H : Hp} {W : W0} {ds : List D} {vs : List V} {Q : VK} (r : Rel K μ M H) (q : DVs K μ M.length H ds vs) (a : Ans K (DV K) W μ M.length H (.ok (.lst ds) M) Q) (p : Addr) (hp : H p = none) (o : Obj) :
    Q (.ref p) (upd (upd H p (.lst vs)) p (.frz o (.lst vs))) := by
  rw [upd_upd]
  refine a μ _ _ (Lift.fresh hp) (r.fresh hp) ?_
  unfold DV
  exact ⟨p, vs, rfl, .inl ⟨o, upd_same⟩, q.lift (Lift.fresh hp)⟩
theorem me_lst (h : MA X W es g) : ME X W (.List es pos) (eL gLst g) := by
  refine PE.weak (PE.lock (pe_lst h)) fun σ H Q hw => ?_
  refine tM.mono (fun v H1 ⟨μ, M, ρ, d, r, e, q, a1⟩ => ?_) (tM.seq (rel := DVs X.K) hw)
  unfold gLst at a1
  split at a1
  · rename_i hl
    exact ⟨by rw [q.length]; exact hl, fun p hp => ⟨p, v, rfl, upd_same, fun o => ans_lst r q a1 p hp o⟩⟩
  · exact a1.elim
/-- a built-in function, a built-in class, called -/
theorem me_cb {x : Str} {id : String} {p : Pos} {h : FL} (hc : CallM X (.builtin id) h) (hg : Gl X x) (hm : X.mg x = none) (hv : bootBuiltins x = some (.builtin id)) (ha : MA X W (e :: es) g) (hn : x ≠ "__name__" := by decide) (hdb : (x == ("__debug__" : Str)) = false := by decide)
    (he : starEach (e :: es) X.env = (false, eval e X.env) :: starEach es X.env := by rfl) (hpl : (backTo pos (starEach es X.env)).any (·.1) = false := by rfl) : ME X W (.Call (.Name x p) (e :: es) [] pos) (eL h g) := by
  refine ⟨fun pins s σ H Q I hw => ?_⟩
  refine (pe_callB (hc (fun c d H' => W c d σ H')) hg hm hv ha hn hdb he hpl).run pins s σ H Q I ?_
  exact tM.mono (fun v H1 ⟨μ, M, ρ, d, r, e, q, a1⟩ => ⟨μ, M, d, r, q, a1⟩) (tM.seq (rel := DVs X.K) hw)
theorem me_ct {x : Str} {T : String} {p : Pos} {h : FL} (hc : CallM X (.type T) h) (hg : Gl X x) (hm : X.mg x = none) (hv : bootBuiltins x = some (.type T)) (ha : MA X W (e :: es) g) (hn : x ≠ "__name__" := by decide) (hdb : (x == ("__debug__" : Str)) = false := by decide)
    (he : starEach (e :: es) X.env = (false, eval e X.env) :: starEach es X.env := by rfl) (hpl : (backTo pos (starEach es X.env)).any (·.1) = false := by rfl) : ME X W (.Call (.Name x p) (e :: es) [] pos) (eL h g) := by
  refine ⟨fun pins s σ H Q I hw => ?_⟩
  refine (pe_callTy (hc (fun c d H' => W c d σ H')) hg hm hv ha hn hdb he hpl).run pins s σ H Q I ?_
  exact tM.mono (fun v H1 ⟨μ, M, ρ, d, r, e, q, a1⟩ => ⟨μ, M, d, r, q, a1⟩) (tM.seq (rel := DVs X.K) hw)
end
end Br
set_option Elab.async false
set_option linter.all false
set_option maxRecDepth 100000
set_option maxHeartbeats 4000000
namespace Br
open PySem PySem.Spec PyProof.Rows L2
/-! ### tests -/
def truD (M : Mem) : D → Option Bool
  | .non => some false
  | .bl b => some b
  | .int i => some (i != 0)
  | .str y => if y.length ≤ sizeLine then some (decide (y.length ≠ 0)) else none
  | .tup xs => some (!xs.isEmpty)
  | .lst xs => some (!xs.isEmpty)
  | .ref n => match M[n]? with
    | some (.lst xs) => some (!xs.isEmpty)
    | some (.dic kvs) => some (!kvs.isEmpty)
    | _ => none
  | _ => none
theorem DVs.empty {K : PySem.W.Frag} {μ : Nat → Addr} {N : Nat} {H : Hp} {ds : List D} {vs : List V} (h : DVs K μ N H ds vs) : vs.isEmpty = ds.isEmpty := by
  have e := h.length
  cases ds <;> cases vs <;> simp_all
theorem KVs.empty {K : PySem.W.Frag} {μ : Nat → Addr} {N : Nat} {H : Hp} {ds : List (Key × D)} {vs : List (Key × V)} (h : KVs K μ N H ds vs) : vs.isEmpty = ds.isEmpty := by
  cases ds with
  | nil => have e : vs = [] := h; rw [e]; rfl
  | cons d ds => obtain ⟨v, r, e, _⟩ := h; rw [e]; rfl
theorem truD_ok {K : PySem.W.Frag} {μ : Nat → Addr} {M : Mem} {H : Hp} {d : D} {v : V} {b : Bool} (r : Rel K μ M H) (q : DV K μ M.length H d v) (h : truD M d = some b) : TruV K v H b := by
  cases d with
  | non => unfold DV at q; subst q; cases h; rfl
  | bl c => unfold DV at q; subst q; cases h; rfl
  | int i => unfold DV at q; subst q; cases h; rfl
  | str y =>
    unfold DV at q; subst q
    unfold truD at h
    dsimp only at h
    split at h
    · rename_i hl
      cases h
      refine ⟨hl, ?_⟩
      rw [Bool.eq_iff_iff]
      simp
    · cases h
  | tup xs =>
    unfold DV at q
    obtain ⟨a, ys, e, s, t⟩ := q
    subst e; cases h
    exact .inr (.inl ⟨ys, s, by rw [t.empty]⟩)
  | lst xs =>
    unfold DV at q
    obtain ⟨a, ys, e, s, t⟩ := q
    subst e; cases h
    exact .inl ⟨ys, s.seq, by rw [t.empty]⟩
  | ref n =>
    unfold DV at q
    obtain ⟨hn, e⟩ := q
    subst e
    unfold truD at h
    dsimp only at h
    split at h
    · rename_i xs hx
      cases h
      obtain ⟨ys, e1, e2⟩ := r.obj n _ hx
      exact .inl ⟨ys, SqL.of e1, by rw [e2.empty]⟩
    · rename_i xs hx
      cases h
      obtain ⟨ys, e1, e2⟩ := r.obj n _ hx
      exact .inr (.inr ⟨ys, e1, by rw [e2.empty]⟩)
    · cases h
  | gl x => cases h
  | ty t => cases h
def tT (f : FE) : FT := fun ρ M => (f ρ M).bind fun d M1 => match truD M1 d with
  | some b => .ok b M1
  | none => .no
def tNot (t : FT) : FT := fun ρ M => (t ρ M).bind fun b M1 => .ok (!b) M1
def tAnd (t u : FT) : FT := fun ρ M => (t ρ M).bind fun b M1 => if b = true then u ρ M1 else .ok false M1
def tOr (t u : FT) : FT := fun ρ M => (t ρ M).bind fun b M1 => if b = true then .ok true M1 else u ρ M1
def eAnd (a b : FE) : FE := fun ρ M => (a ρ M).bind fun x M1 => match truD M1 x with
  | some true => b ρ M1
  | some false => .ok x M1
  | none => .no
def eOr (a b : FE) : FE := fun ρ M => (a ρ M).bind fun x M1 => match truD M1 x with
  | some true => .ok x M1
  | some false => b ρ M1
  | none => .no
def eNot (a : FE) : FE := fun ρ M => (a ρ M).bind fun x M1 => match truD M1 x with
  | some b => .ok (.bl (!b)) M1
  | none => .no
def eIf (t : FT) (a b : FE) : FE := fun ρ M => (t ρ M).bind fun c M1 => if c = true then a ρ M1 else b ρ M1
def MW (X : Cx) (W : WX) (e : Expr) (f : FT) : Prop := PW X e (tM X.K BV W f)
section
variable {X : Cx} {W : WX} {e a b c : Expr} {es rest : List Expr} {f fa fb : FE} {ft fu : FT} {g : FA} {pos : Pos}
theorem PW.weak {t t' : TT} (h : PW X e t) (w : ∀ σ H Q, t' σ H Q → t σ H Q) : PW X e t' := ⟨fun wh pins s σ H Q I hw => h.run wh pins s σ H Q I (w σ H Q hw)⟩
theorem mt_tru (ha : ME X W a fa) (he : ∀ whole, isTrue a X.env whole = (do let v ← whole; standAt a.pos; holding [v] (truthy v)) := by intro _; rfl) : MT X W a (tT fa) := by
  refine PT.weak (pt_truth ha he) fun σ H Q h => ?_
  refine tM.mono (fun v H1 ⟨μ, M, ρ, d, r, e, q, a1⟩ => ?_) (tM.seq (rel := DV X.K) h)
  cases hd : truD M d with
  | none => rw [hd] at a1; exact a1.elim
  | some k =>
    rw [hd] at a1
    exact ⟨k, truD_ok r q hd, a1 μ H1 k (Lift.refl ..) r rfl⟩
theorem mw_and1 (ha : MT X W a ft) : MW X W (.BoolOp .And [a] pos) ft := pw_and1 ha
theorem mw_or1 (ha : MT X W a ft) : MW X W (.BoolOp .Or [a] pos) ft := pw_or1 ha
theorem mw_and (ha : MT X W a ft) (hb : MW X W (.BoolOp .And (b :: rest) pos) fu) : MW X W (.BoolOp .And (a :: b :: rest) pos) (tAnd ft fu) := by
  refine PW.weak (pw_and ha hb) fun σ H Q h => ?_
  refine tM.mono (fun v H1 ⟨μ, M, ρ, d, r, e, q, a1⟩ => ?_) (tM.seq (rel := BV) h)
  have q' : d = v := q
  subst q'
  cases d with
  | true => exact ⟨μ, M, ρ, r, e, a1⟩
  | false => exact a1 μ H1 false (Lift.refl ..) r rfl
theorem mw_or (ha : MT X W a ft) (hb : MW X W (.BoolOp .Or (b :: rest) pos) fu) : MW X W (.BoolOp .Or (a :: b :: rest) pos) (tOr ft fu) := by
  refine PW.weak (pw_or ha hb) fun σ H Q h => ?_
  refine tM.mono (fun v H1 ⟨μ, M, ρ, d, r, e, q, a1⟩ => ?_) (tM.seq (rel := BV) h)
  have q' : d = v := q
  subst q'
  cases d with
  | false => exact ⟨μ, M, ρ, r, e, a1⟩
  | true => exact a1 μ H1 true (Lift.refl ..) r rfl
theorem mt_w (h : MW X W e ft) : MT X W e ft := PW.pt h
theorem mt_not (ha : MT X W a ft) : MT X W (.UnaryOp .Not a pos) (tNot ft) := by
  refine PT.weak (pt_not ha) fun σ H Q h => ?_
  refine tM.mono (fun v H1 ⟨μ, M, ρ, d, r, e, q, a1⟩ => ?_) (tM.seq (rel := BV) h)
  have q' : d = v := q
  subst q'
  exact a1 μ H1 _ (Lift.refl ..) r rfl
theorem me_and1 {op : BoolOp} (ha : ME X W a fa) : ME X W (.BoolOp op [a] pos) fa := pe_one ha
theorem me_and (ha : ME X W a fa) (hb : ME X W (.BoolOp .And (b :: rest) pos) fb) : ME X W (.BoolOp .And (a :: b :: rest) pos) (eAnd fa fb) := by
  refine PE.weak (pe_andT ha hb) fun σ H Q h => ?_
  refine tM.mono (fun v H1 ⟨μ, M, ρ, d, r, e, q, a1⟩ => ?_) (tM.seq (rel := DV X.K) h)
  cases hd : truD M d with
  | none => rw [hd] at a1; exact a1.elim
  | some k =>
    rw [hd] at a1
    refine ⟨k, truD_ok r q hd, ?_⟩
    cases k with
    | true => exact ⟨μ, M, ρ, r, e, a1⟩
    | false => exact a1 μ H1 v (Lift.refl ..) r q
theorem me_or (ha : ME X W a fa) (hb : ME X W (.BoolOp .Or (b :: rest) pos) fb) : ME X W (.BoolOp .Or (a :: b :: rest) pos) (eOr fa fb) := by
  refine PE.weak (pe_orT ha hb) fun σ H Q h => ?_
  refine tM.mono (fun v H1 ⟨μ, M, ρ, d, r, e, q, a1⟩ => ?_) (tM.seq (rel := DV X.K) h)
  cases hd : truD M d with
  | none => rw [hd] at a1; exact a1.elim
  | some k =>
    rw [hd] at a1
    refine ⟨k, truD_ok r q hd, ?_⟩
    cases k with
    | false => exact ⟨μ, M, ρ, r, e, a1⟩
    | true => exact a1 μ H1 v (Lift.refl ..) r q
theorem me_not (ha : ME X W a fa) : ME X W (.UnaryOp .Not a pos) (eNot fa) := by
  refine PE.weak (pe_notT ha) fun σ H Q h => ?_
  refine tM.mono (fun v H1 ⟨μ, M, ρ, d, r, e, q, a1⟩ => ?_) (tM.seq (rel := DV X.K) h)
  cases hd : truD M d with
  | none => rw [hd] at a1; exact a1.elim
  | some k =>
    rw [hd] at a1
    exact ⟨k, truD_ok r q hd, a1 μ H1 _ (Lift.refl ..) r (by unfold DV; rfl)⟩
theorem me_if (ht : MT X W c ft) (ha : ME X W a fa) (hb : ME X W b fb) : ME X W (.IfExp c a b pos) (eIf ft fa fb) := by
  refine PE.weak (pe_ifExp ht ha hb) fun σ H Q h => ?_
  refine tM.mono (fun v H1 ⟨μ, M, ρ, d, r, e, q, a1⟩ => ?_) (tM.seq (rel := BV) h)
  have q' : d = v := q
  subst q'
  cases d with
  | true => exact ⟨μ, M, ρ, r, e, a1⟩
  | false => exact ⟨μ, M, ρ, r, e, a1⟩
end
/-! ### statements -/
inductive SR where
  | go (f : Fl) (ρ : En) (M : Mem) | ex (e : Exn) (ρ : En) (M : Mem) | no
abbrev FStm := En → Mem → SR
section
variable (K : PySem.W.Frag)
def AnsS (W : WX) (μ : Nat → Addr) (N : Nat) (H : Hp) (r : SR) (D : Ends) : Prop := match r with
  | .go .nx ρ' M' => ∀ μ' H' σ', Lift μ N H μ' M'.length H' → Rel K μ' M' H' → EV K μ' M'.length H' ρ' σ' → D.nx σ' H'
  | .go .bk ρ' M' => ∀ μ' H' σ', Lift μ N H μ' M'.length H' → Rel K μ' M' H' → EV K μ' M'.length H' ρ' σ' → D.bk σ' H'
  | .go .ct ρ' M' => ∀ μ' H' σ', Lift μ N H μ' M'.length H' → Rel K μ' M' H' → EV K μ' M'.length H' ρ' σ' → D.ct σ' H'
  | .go (.ret d) ρ' M' => ∀ μ' H' v, Lift μ N H μ' M'.length H' → Rel K μ' M' H' → DV K μ' M'.length H' d v → D.rt v H'
  | .ex e ρ' M' => ∀ μ' H' σ' cls dd, Lift μ N H μ' M'.length H' → Rel K μ' M' H' → EV K μ' M'.length H' ρ' σ' → XV K μ' M'.length H' e cls dd → W cls dd σ' H'
  | .no => False
def tSt (W : WX) (g : FStm) : TS := fun D σ H => ∃ μ M ρ, Rel K μ M H ∧ EV K μ M.length H ρ σ ∧ AnsS K W μ M.length H (g ρ M) D
end
def MS (X : Cx) (W : WX) (st : Stmt) (g : FStm) : Prop := PS X st (tSt X.K W g)
def MSs (X : Cx) (W : WX) (st : List Stmt) (g : FStm) : Prop := PSs X st (tSt X.K W g)
/-- an expression in a statement -/
def SR.of {α : Type} (r : R α) (ρ : En) (k : α → Mem → SR) : SR := match r with
  | .ok a M => k a M
  | .ex e M => .ex e ρ M
  | .no => .no
def SR.then (r : SR) (k : En → Mem → SR) : SR := match r with
  | .go .nx ρ M => k ρ M
  | r => r
def sNx : FStm := fun ρ M => .go .nx ρ M
def sSeq (a b : FStm) : FStm := fun ρ M => (a ρ M).then b
def sDrop (a : FE) : FStm := fun ρ M => SR.of (a ρ M) ρ fun _ M1 => .go .nx ρ M1
def sRet (a : FE) : FStm := fun ρ M => SR.of (a ρ M) ρ fun d M1 => .go (.ret d) ρ M1
def sRetN : FStm := fun ρ M => .go (.ret .non) ρ M
def sIf (t : FT) (a b : FStm) : FStm := fun ρ M => SR.of (t ρ M) ρ fun c M1 => if c = true then a ρ M1 else b ρ M1
def sBk : FStm := fun ρ M => .go .bk ρ M
def sCt : FStm := fun ρ M => .go .ct ρ M
/-- a target takes a value -/
abbrev FG := D → FStm
def gN (i : Nat) : FG := fun d ρ M => .go .nx (ρ.set i (some d)) M
def sAsg (a : FE) (g : FG) : FStm := fun ρ M => SR.of (a ρ M) ρ fun d M1 => g d ρ M1
section
variable {K : PySem.W.Frag} {α β : Type} {rel : (Nat → Addr) → Nat → Hp → α → β → Prop} {W : WX} {μ μ1 : Nat → Addr} {N N1 : Nat} {H H1 : Hp} {σ : L2.St}
theorem AnsS.rebase {r : SR} {D : Ends} (l : Lift μ N H μ1 N1 H1) (h : AnsS K W μ N H r D) : AnsS K W μ1 N1 H1 r D := by
  cases r with
  | go f ρ M =>
    cases f with
    | nx => exact fun μ' H' σ' l' r' q => h μ' H' σ' (l.trans l') r' q
    | bk => exact fun μ' H' σ' l' r' q => h μ' H' σ' (l.trans l') r' q
    | ct => exact fun μ' H' σ' l' r' q => h μ' H' σ' (l.trans l') r' q
    | ret d => exact fun μ' H' v l' r' q => h μ' H' v (l.trans l') r' q
  | ex e ρ M => exact fun μ' H' σ' c d l' r' q => h μ' H' σ' c d (l.trans l') r' q
  | no => exact h
theorem AnsS.then {r : SR} {k : FStm} {D : Ends} (h : AnsS K W μ N H (r.then k) D) : AnsS K W μ N H r { D with nx := tSt K W k D } := by
  cases r with
  | go f ρ M =>
    cases f with
    | nx => exact fun μ' H' σ' l' r' q => ⟨μ', M, ρ, r', q, AnsS.rebase l' h⟩
    | bk => exact h
    | ct => exact h
    | ret d => exact h
  | ex e ρ M => exact h
  | no => exact h
theorem tSt.expr {f : En → Mem → R α} {k : En → α → Mem → SR} {D : Ends} (h : tSt K W (fun ρ M => SR.of (f ρ M) ρ (k ρ)) D σ H) :
    tM K rel W f σ H (fun v H1 => ∃ μ M ρ d, Rel K μ M H1 ∧ EV K μ M.length H1 ρ σ ∧ rel μ M.length H1 d v ∧ AnsS K W μ M.length H1 (k ρ d M) D) := by
  obtain ⟨μ, M, ρ, r, e, a⟩ := h
  refine ⟨μ, M, ρ, r, e, ?_⟩
  dsimp only at a
  cases hf : f ρ M with
  | ok d M1 =>
    rw [hf] at a
    exact fun μ' H' v l r' q => ⟨μ', M1, ρ, d, r', e.lift l, q, AnsS.rebase l a⟩
  | ex x M1 =>
    rw [hf] at a
    exact fun μ' H' c d l r' q => a μ' H' σ c d l r' (e.lift l) q
  | no => rw [hf] at a; exact a
end
def MG (X : Cx) (W : WX) (t : Expr) (g : FG) : Prop := PG X t (fun v σ H Q => ∃ μ M ρ d, Rel X.K μ M H ∧ EV X.K μ M.length H ρ σ ∧ DV X.K μ M.length H d v ∧
  AnsS X.K W μ M.length H (g d ρ M) { nx := Q, rt := fun _ _ => False })
section
variable {X : Cx} {W : WX} {st : Stmt} {sts : List Stmt} {e c tg : Expr} {f : FE} {ft : FT} {g g1 g2 : FStm} {gg : FG} {pos : Pos}
theorem mss_nil : MSs X W [] sNx := PSs.weak pss_nil fun D σ H ⟨μ, M, ρ, r, e, a⟩ => a μ H σ (Lift.refl ..) r e
theorem mss_cons (h1 : MS X W st g1) (h2 : MSs X W sts g2) : MSs X W (st :: sts) (sSeq g1 g2) := by
  refine PSs.weak (pss_cons h1 h2) fun D σ H ⟨μ, M, ρ, r, e, a⟩ => ?_
  exact ⟨μ, M, ρ, r, e, AnsS.then a⟩
theorem mss_one (h1 : MS X W st g1) : MSs X W [st] g1 := pss_one h1
theorem ms_pass : MS X W (.Pass pos) sNx := PS.weak ps_pass fun D σ H ⟨μ, M, ρ, r, e, a⟩ => a μ H σ (Lift.refl ..) r e
theorem ms_break : MS X W (.Break pos) sBk := PS.weak ps_break fun D σ H ⟨μ, M, ρ, r, e, a⟩ => a μ H σ (Lift.refl ..) r e
theorem ms_cont : MS X W (.Continue pos) sCt := PS.weak ps_continue fun D σ H ⟨μ, M, ρ, r, e, a⟩ => a μ H σ (Lift.refl ..) r e
theorem ms_doc {x : Str} {j : Nat} {pos' : Pos} : MS X W (.Expr (.Constant (.str x) j pos) pos') sNx := PS.weak ps_doc fun D σ H ⟨μ, M, ρ, r, e, a⟩ => a μ H σ (Lift.refl ..) r e
theorem ms_expr (he : ME X W e f) (hs : swapsWith e none pos.line X.env = pure false := by rfl) : MS X W (.Expr e pos) (sDrop f) := by
  refine PS.weak (ps_expr he hs) fun D σ H h => ?_
  exact tM.mono (fun v H1 ⟨μ, M, ρ, d, r, e, q, a⟩ => a μ H1 σ (Lift.refl ..) r e) (tSt.expr (rel := DV X.K) h)
theorem ms_ret (he : ME X W e f) : MS X W (.Return (some e) pos) (sRet f) := by
  refine PS.weak (ps_ret he) fun D σ H h => ?_
  exact tM.mono (fun v H1 ⟨μ, M, ρ, d, r, e, q, a⟩ => a μ H1 v (Lift.refl ..) r q) (tSt.expr (rel := DV X.K) h)
theorem ms_retN : MS X W (.Return none pos) sRetN := PS.weak ps_retN fun D σ H ⟨μ, M, ρ, r, e, a⟩ => a μ H .non (Lift.refl ..) r (by unfold DV; rfl)
theorem ms_if {a b : List Stmt} (hc : MT X W c ft) (ha : MSs X W a g1) (hb : MSs X W b g2) : MS X W (.If c a b pos) (sIf ft g1 g2) := by
  refine PS.weak (ps_if hc ha hb) fun D σ H h => ?_
  refine tM.mono (fun v H1 ⟨μ, M, ρ, d, r, e, q, a⟩ => ?_) (tSt.expr (rel := BV) h)
  have q' : d = v := q
  subst q'
  cases d with
  | true => exact ⟨μ, M, ρ, r, e, a⟩
  | false => exact ⟨μ, M, ρ, r, e, a⟩
theorem mg_n (i : Nat) {x : Str} (hN : X.N.Nodup) (hi : X.N[i]? = some x) (hx : Loc X.env.scope x) (hf : X.fn x = true ∨ X.env.scope.names.lookup x = some .local := by first | exact .inl rfl | exact .inr rfl | assumption) : MG X W (.Name x pos) (gN i) :=
  ⟨fun pins s σ H v u Q I rv ⟨μ, M, ρ, d, r, e, q, a⟩ => (pg_name hN hi hx hf).run pins s σ H v u Q I rv (a μ H _ (Lift.refl ..) r (e.set q i))⟩
theorem ms_asg (he : ME X W e f) (hg : MG X W tg gg) (hs : swapsWithSole [tg] e pos.line X.env = pure false := by rfl) (hw : swappedStores [tg] e X.env = pure none := by rfl)
    (h1 : (assignEach [tg] X.env).map (·.2) = [assign tg X.env] := by rfl) (hnb : ∀ d ρ M, ∃ ρ' M', gg d ρ M = .go .nx ρ' M' ∨ gg d ρ M = .no := by intros; exact ⟨_, _, .inl rfl⟩) : MS X W (.Assign [tg] e pos) (sAsg f gg) := by
  refine PS.weak (ps_asg he hg hs hw h1) fun D σ H h => ?_
  refine tM.mono (fun v H1 ⟨μ, M, ρ, d, r, e, q, a⟩ => ⟨μ, M, ρ, d, r, e, q, ?_⟩) (tSt.expr (rel := DV X.K) h)
  obtain ⟨ρ', M', z⟩ := hnb d ρ M
  rcases z with z | z
  · rw [z] at a ⊢; exact a
  · rw [z] at a ⊢; exact a
theorem ms_set (i : Nat) {x : Str} {pos' : Pos} (hN : X.N.Nodup) (hi : X.N[i]? = some x) (hx : Loc X.env.scope x) (he : ME X W e f) (hs : swapsWith e (some (.Name x pos')) pos.line X.env = pure false := by rfl)
    (hf : X.fn x = true ∨ X.env.scope.names.lookup x = some .local := by first | exact .inl rfl | exact .inr rfl | assumption) : MS X W (.Assign [.Name x pos'] e pos) (sAsg f (gN i)) := by
  refine PS.weak (ps_set hN hi hx he hs hf) fun D σ H h => ?_
  exact tM.mono (fun v H1 ⟨μ, M, ρ, d, r, e, q, a⟩ => a μ H1 _ (Lift.refl ..) r (e.set q i)) (tSt.expr (rel := DV X.K) h)
end
/-! ### while -/
def sWhile : Nat → FT → FStm → FStm
  | 0, _, _ => fun _ _ => .no
  | n + 1, c, b => fun ρ M => SR.of (c ρ M) ρ fun k M1 => if k = true then (match b ρ M1 with
      | .go .nx ρ' M' => sWhile n c b ρ' M'
      | .go .ct ρ' M' => sWhile n c b ρ' M'
      | .go .bk ρ' M' => .go .nx ρ' M'
      | r => r) else .go .nx ρ M1
section
variable {X : Cx} {W : WX} {c : Expr} {body : List Stmt} {ft : FT} {g : FStm} {pos : Pos}
theorem ms_while (n : Nat) (hp : PassesOwn (model X.prog X.w) X.A X.env X.xe) (hc : MT X W c ft) (hb : MSs X W body g) : MS X W (.While c body [] pos) (sWhile n ft g) := by
  refine PS.weak (ps_while hp hc hb) fun D σ H h => ?_
  refine ⟨fun m σ H => tSt X.K W (sWhile m ft g) D σ H, ⟨n, h⟩, fun m σ H hw => ?_⟩
  cases m with
  | zero => obtain ⟨_, _, _, _, _, z⟩ := hw; exact z.elim
  | succ m =>
    refine tM.mono (fun v H1 ⟨μ, M, ρ, d, r, e, q, a⟩ => ?_) (tSt.expr (rel := BV) hw)
    have q' : d = v := q
    subst q'
    cases d with
    | false => exact a μ H1 σ (Lift.refl ..) r e
    | true =>
      refine ⟨fun σ' H' => tSt X.K W (sWhile m ft g) D σ' H', fun σ' H' z => ⟨m, Nat.lt_succ_self m, z⟩, μ, M, ρ, r, e, ?_⟩
      rw [if_pos rfl] at a
      cases hg : g ρ M with
      | go f ρ' M' =>
        rw [hg] at a
        cases f with
        | nx => exact fun μ' H' σ' l' r' q => ⟨μ', M', ρ', r', q, AnsS.rebase l' a⟩
        | ct => exact fun μ' H' σ' l' r' q => ⟨μ', M', ρ', r', q, AnsS.rebase l' a⟩
        | bk => exact a
        | ret d => exact a
      | ex x ρ' M' => rw [hg] at a; exact a
      | no => rw [hg] at a; exact a.elim
end
/-! ### for -/
/-- one turn: the target, the body -/
def turn (gg : FG) (b : FStm) (x : D) (k : En → Mem → SR) : FStm := fun ρ M => match gg x ρ M with
  | .go .nx ρ1 M1 => (match b ρ1 M1 with
    | .go .nx ρ' M' => k ρ' M'
    | .go .ct ρ' M' => k ρ' M'
    | .go .bk ρ' M' => .go .nx ρ' M'
    | r => r)
  | _ => .no
def sFor (gg : FG) (b : FStm) : List D → FStm
  | [] => fun ρ M => .go .nx ρ M
  | x :: xs => turn gg b x (sFor gg b xs)
/-- over the n-th list of the memory, from place i on, as it stands at each turn; at most m turns -/
def sForL (gg : FG) (b : FStm) (n : Nat) : Nat → Nat → FStm
  | 0, _ => fun _ _ => .no
  | m + 1, i => fun ρ M => match M[n]? with
    | some (.lst ds) => (match ds[i]? with
      | none => .go .nx ρ M
      | some x => turn gg b x (sForL gg b n m (i + 1)) ρ M)
    | _ => .no
/-- a walked thing by data: a list of items, or a list of the memory -/
inductive Wk where
  | items (ds : List D) | obj (n : Nat)
def sForW (m : Nat) (w : Wk) (gg : FG) (b : FStm) : FStm := match w with
  | .items ds => sFor gg b ds
  | .obj n => sForL gg b n m 0
def wkOf (M : Mem) : D → Option Wk
  | .tup ds => some (.items ds)
  | .lst ds => some (.items ds)
  | .ref n => (match M[n]? with
    | some (.lst _) => some (.obj n)
    | _ => none)
  | _ => none
/-- what a for walks: the walk J over data w -/
def WkR (K : PySem.W.Frag) (μ : Nat → Addr) (N : Nat) (H : Hp) (w : Wk) (J : It) : Prop := match w with
  | .items ds => ∀ μ' N' H', Lift μ N H μ' N' H' → J.stop ds.length H' ∧ ∀ (i : Nat) d, ds[i]? = some d → J.go i H' ∧ ∀ M x H2, Rel K μ' M H' → M.length = N' → J.yld i H' x H2 → Rel K μ' M H2 ∧ Lift μ' N' H' μ' N' H2 ∧ DV K μ' N' H2 d x
  | .obj n => n < N ∧ J = Itl K (μ n)
theorem wk_tup {K : PySem.W.Frag} {μ : Nat → Addr} {N : Nat} {H : Hp} {ds : List D} {vs : List V} {a : Addr} (q : DVs K μ N H ds vs) (s : SqT K H a vs) : WkR K μ N H (.items ds) (Itt K a) := by
  intro μ' N' H' l
  have s' := l.kp.sqT s
  have q' := q.lift l
  refine ⟨⟨vs, s', by rw [q.length]; exact Nat.le_refl _⟩, fun i d hd => ?_⟩
  obtain ⟨v, hv, dv⟩ := q'.get hd
  refine ⟨⟨vs, v, s', hv⟩, fun M x H2 r e y => ?_⟩
  obtain ⟨e1, y⟩ := y
  subst e1
  have e2 := y vs s'
  rw [hv] at e2
  cases e2
  exact ⟨r, Lift.refl .., dv⟩
theorem wk_lst {K : PySem.W.Frag} {μ : Nat → Addr} {N : Nat} {H : Hp} {ds : List D} {vs : List V} {a : Addr} (q : DVs K μ N H ds vs) (s : SqF K H a vs) : WkR K μ N H (.items ds) (Itl K a) := by
  intro μ' N' H' l
  have s' := (l.kp.sqF s).seq
  have q' := q.lift l
  refine ⟨⟨vs, s', by rw [q.length]; exact Nat.le_refl _⟩, fun i d hd => ?_⟩
  obtain ⟨v, hv, dv⟩ := q'.get hd
  refine ⟨⟨vs, v, s', hv⟩, fun M x H2 r e y => ?_⟩
  obtain ⟨e1, y⟩ := y
  subst e1
  have e2 := y vs s'
  rw [hv] at e2
  cases e2
  exact ⟨r, Lift.refl .., dv⟩
def rangeD (lo : Int) (n : Nat) : List D := (List.range n).map fun (i : Nat) => D.int (lo + (i : Int))
theorem wk_range {K : PySem.W.Frag} {μ : Nat → Addr} {N : Nat} {H : Hp} (lo : Int) (n : Nat) : WkR K μ N H (.items (rangeD lo n)) (Itr lo n) := by
  intro μ' N' H' l
  refine ⟨by show n ≤ _; simp [rangeD], fun i d hd => ?_⟩
  have hi : i < n := by
    have := (List.getElem?_eq_some_iff.mp hd).1
    simpa [rangeD] using this
  have e : d = .int (lo + (i : Int)) := by
    simp [rangeD, hi] at hd
    exact hd.symm
  subst e
  refine ⟨hi, fun M x H2 r e y => ?_⟩
  obtain ⟨e1, y⟩ := y
  subst e1
  exact ⟨r, Lift.refl .., by unfold DV; exact y⟩
def MI (X : Cx) (W : WX) (tg iter : Expr) (fw : En → Mem → R Wk) : Prop := PI X tg iter (tM X.K (WkR X.K) W fw)
def wIt (f : FE) : En → Mem → R Wk := fun ρ M => (f ρ M).bind fun d M1 => match wkOf M1 d with
  | some w => .ok w M1
  | none => .no
def sForE (m : Nat) (fw : En → Mem → R Wk) (gg : FG) (b : FStm) : FStm := fun ρ M => SR.of (fw ρ M) ρ fun w M1 => sForW m w gg b ρ M1
section
variable {X : Cx} {W : WX} {tg iter : Expr} {body : List Stmt} {fw : En → Mem → R Wk} {gg : FG} {g : FStm} {pos : Pos}
theorem PI.weak {t t' : TI} (h : PI X tg iter t) (w : ∀ σ H Q, t' σ H Q → t σ H Q) : PI X tg iter t' := ⟨fun pins s σ H Q I hw => h.run pins s σ H Q I (w σ H Q hw)⟩
theorem ms_for (m : Nat) (hp : PassesOwn (model X.prog X.w) X.A X.env X.xe) (hc : X.calm = true) (hi : MI X W tg iter fw) (hg : MG X W tg gg) (hb : MSs X W body g)
    (hs : ∀ x, foldedSetIterable iter X.env x = pure x := by intro _; rfl) : MS X W (.For tg iter body [] pos) (sForE m fw gg g) := by
  refine PS.weak (ps_for hp hc hi hg hb hs) fun D σ H h => ?_
  refine tM.mono (fun J H1 ⟨μ, M, ρ, w, r, e, q, a⟩ => ?_) (tSt.expr (rel := WkR X.K) h)
  cases w with
  | items ds =>
    refine ⟨fun i m σ' H' => m = ds.length - i ∧ i ≤ ds.length ∧ ∃ μ' M' ρ', Lift μ M.length H1 μ' M'.length H' ∧ Rel X.K μ' M' H' ∧ EV X.K μ' M'.length H' ρ' σ' ∧ AnsS X.K W μ' M'.length H' (sFor gg g (ds.drop i) ρ' M') D,
      ⟨_, rfl, Nat.zero_le _, μ, M, ρ, Lift.refl .., r, e, a⟩, ?_⟩
    rintro i m' σ' H' ⟨rfl, hi, μ', M', ρ', l, r', e', a'⟩
    obtain ⟨h1, h2⟩ := q μ' M'.length H' l
    by_cases hlt : i < ds.length
    · have hd : ds[i]? = some ds[i] := by simp [hlt]
      obtain ⟨h3, h4⟩ := h2 i ds[i] hd
      refine .inr ⟨h3, fun σ2 H2 => ∃ m', m' < ds.length - i ∧ (m' = ds.length - (i + 1) ∧ i + 1 ≤ ds.length ∧ ∃ μ' M' ρ', Lift μ M.length H1 μ' M'.length H2 ∧ Rel X.K μ' M' H2 ∧ EV X.K μ' M'.length H2 ρ' σ2 ∧ AnsS X.K W μ' M'.length H2 (sFor gg g (ds.drop (i + 1)) ρ' M') D),
        fun σ2 H2 z => z, fun x H2 y => ?_⟩
      obtain ⟨r2, l2, d2⟩ := h4 M' x H2 r' rfl y
      rw [List.drop_eq_getElem_cons hlt] at a'
      have a2 := AnsS.rebase l2 a'
      -- the turn, told with where it began
      refine ⟨μ', M', ρ', ds[i], r2, e'.lift l2, d2, ?_⟩
      have l3 := l.trans l2
      unfold sFor turn at a2
      cases hg : gg ds[i] ρ' M' with
      | go f ρ1 M1 =>
        rw [hg] at a2
        cases f with
        | nx =>
          refine fun μ1 H3 σ1 l1 r1 q1 => ⟨μ1, M1, ρ1, r1, q1, ?_⟩
          dsimp only at a2
          have a3 := AnsS.rebase l1 a2
          cases hb : g ρ1 M1 with
          | go f ρ2 M2 =>
            rw [hb] at a3
            cases f with
            | nx => exact fun μ4 H4 σ4 l4 r4 q4 => ⟨_, by omega, rfl, hlt, μ4, M2, ρ2, (l3.trans l1).trans l4, r4, q4, AnsS.rebase l4 a3⟩
            | ct => exact fun μ4 H4 σ4 l4 r4 q4 => ⟨_, by omega, rfl, hlt, μ4, M2, ρ2, (l3.trans l1).trans l4, r4, q4, AnsS.rebase l4 a3⟩
            | bk => exact a3
            | ret d => exact a3
          | ex x ρ2 M2 => rw [hb] at a3; exact a3
          | no => rw [hb] at a3; exact a3.elim
        | bk => exact a2.elim
        | ct => exact a2.elim
        | ret d => exact a2.elim
      | ex x ρ1 M1 => rw [hg] at a2; exact a2.elim
      | no => rw [hg] at a2; exact a2.elim
    · have e2 : i = ds.length := by omega
      subst e2
      rw [List.drop_length] at a'
      exact .inl ⟨h1, a' μ' H' σ' (Lift.refl ..) r' e'⟩
  | obj n =>
    obtain ⟨hn, eJ⟩ := q
    subst eJ
    refine ⟨fun i m' σ' H' => ∃ μ' M' ρ', Lift μ M.length H1 μ' M'.length H' ∧ Rel X.K μ' M' H' ∧ EV X.K μ' M'.length H' ρ' σ' ∧ AnsS X.K W μ' M'.length H' (sForL gg g n m' i ρ' M') D, ⟨m, μ, M, ρ, Lift.refl .., r, e, a⟩, ?_⟩
    rintro i m' σ' H' ⟨μ', M', ρ', l, r', e', a'⟩
    cases m' with
    | zero => exact a'.elim
    | succ m' =>
      unfold sForL at a'
      split at a'
      · rename_i ds hds
        obtain ⟨xs, hx, dx⟩ := r'.obj n _ hds
        have eμ : μ' n = μ n := l.same n hn
        rw [eμ] at hx
        split at a'
        · rename_i hnone
          have hl : ds.length ≤ i := List.getElem?_eq_none_iff.mp hnone
          exact .inl ⟨⟨xs, SqL.of hx, by rw [dx.length]; exact hl⟩, a' μ' H' σ' (Lift.refl ..) r' e'⟩
        · rename_i d hd
          obtain ⟨v, hv, dv⟩ := dx.get hd
          refine .inr ⟨⟨xs, v, SqL.of hx, hv⟩, fun σ2 H2 => ∃ μ' M' ρ', Lift μ M.length H1 μ' M'.length H2 ∧ Rel X.K μ' M' H2 ∧ EV X.K μ' M'.length H2 ρ' σ2 ∧ AnsS X.K W μ' M'.length H2 (sForL gg g n m' (i + 1) ρ' M') D, fun σ2 H2 z => ⟨m', Nat.lt_succ_self _, z⟩, fun x H2 y => ?_⟩
          obtain ⟨e1, y⟩ := y
          subst e1
          have e2 := y xs (SqL.of hx)
          rw [hv] at e2
          cases e2
          refine ⟨μ', M', ρ', d, r', e', dv, ?_⟩
          unfold turn at a'
          cases hg : gg d ρ' M' with
          | go f ρ1 M1 =>
            rw [hg] at a'
            cases f with
            | nx =>
              refine fun μ1 H3 σ1 l1 r1 q1 => ⟨μ1, M1, ρ1, r1, q1, ?_⟩
              dsimp only at a'
              have a3 := AnsS.rebase l1 a'
              cases hb : g ρ1 M1 with
              | go f ρ2 M2 =>
                rw [hb] at a3
                cases f with
                | nx => exact fun μ4 H4 σ4 l4 r4 q4 => ⟨μ4, M2, ρ2, (l.trans l1).trans l4, r4, q4, AnsS.rebase l4 a3⟩
                | ct => exact fun μ4 H4 σ4 l4 r4 q4 => ⟨μ4, M2, ρ2, (l.trans l1).trans l4, r4, q4, AnsS.rebase l4 a3⟩
                | bk => exact a3
                | ret d => exact a3
              | ex x ρ2 M2 => rw [hb] at a3; exact a3
              | no => rw [hb] at a3; exact a3.elim
            | bk => exact a'.elim
            | ct => exact a'.elim
            | ret d => exact a'.elim
          | ex x ρ1 M1 => rw [hg] at a'; exact a'.elim
          | no => rw [hg] at a'; exact a'.elim
      · exact a'.elim
end
end Br
set_option Elab.async false
set_option linter.all false
set_option maxRecDepth 100000
set_option maxHeartbeats 4000000
namespace Br
open PySem PySem.Spec PyProof.Rows L2
/-! ### defs -/
/-- what a def's promise says: it gives what m gives -/
def sM (K : PySem.W.Frag) (m : FL) (E : W0) (Q : VK) (vs : List V) (H : Hp) : Prop := ∃ μ M ds, Rel K μ M H ∧ DVs K μ M.length H ds vs ∧ Ans K (DV K) E μ M.length H (m ds M) Q
structure FnM (P : Program) (w : World) (K : PySem.W.Frag) (mg : Str → Option Value) (base : Heap) (k : Nat) (f : Addr) (fd : FuncData) (ps : List Str) (m : FL) : Prop where
  run : ∀ (A : Around) (outer : List Env) (s : Shared) (H : Hp) (args : Args) (Q : VK) (E : XK) (G : List V → Hp → Prop), Room k A → A.guards = some [] → Env0 P w K mg base A outer s H →
    StX.Bnd (L2.CX P w) P w K mg base fd args ps A outer s H E G → (∀ vs H2, G vs H2 → sM K m E Q vs H2) → codeAny (model P w) A (.call (.ref f) args) (CR (L2.CX P w) outer P w H s Q E) s
theorem FnM.mono {P : Program} {w : World} {K : PySem.W.Frag} {mg : Str → Option Value} {base : Heap} {j k : Nat} {f : Addr} {fd : FuncData} {ps : List Str} {m : FL} (F : FnM P w K mg base j f fd ps m) (h : j ≤ k) : FnM P w K mg base k f fd ps m :=
  ⟨fun A outer s H args Q E G hr => F.run A outer s H args Q E G (hr.mono h)⟩
def st0 (n : Nat) (ds : List D) : En := ds.map some ++ List.replicate (n - ds.length) none
def SR.val (r : SR) : R D := match r with
  | .go .nx _ M => .ok .non M
  | .go (.ret d) _ M => .ok d M
  | .go _ _ _ => .no
  | .ex e _ M => .ex e M
  | .no => .no
/-- a body, run -/
def run (b : FStm) (n : Nat) : FL := fun ds M => (b (st0 n ds) M).val
theorem ev_start {K : PySem.W.Frag} {μ : Nat → Addr} {N : Nat} {H : Hp} {ds : List D} {vs : List V} (names : List Str) (q : DVs K μ N H ds vs) : EV K μ N H (st0 names.length ds) (L2.start names vs) := by
  refine ⟨by unfold L2.start st0; simp [q.length], fun i d h => ?_⟩
  unfold st0 at h
  unfold L2.start
  by_cases hi : i < ds.length
  · rw [List.getElem?_append_left (by simpa using hi), List.getElem?_map] at h
    cases e : ds[i]? with
    | none => rw [e] at h; cases h
    | some d' =>
      rw [e] at h; cases h
      obtain ⟨v, hv, dv⟩ := q.get e
      exact ⟨v, by rw [List.getElem?_append_left (by rw [List.length_map, q.length]; exact hi), List.getElem?_map, hv]; rfl, dv⟩
  · rw [List.getElem?_append_right (by simpa using Nat.le_of_not_lt hi), List.getElem?_replicate] at h
    split at h <;> cases h
theorem fnM_of {P : Program} {w : World} {K : PySem.W.Frag} {mg : Str → Option Value} {base : Heap} {k : Nat} {f : Addr} {fd : FuncData} {x qual : Str} {params : Arguments} {body : List Stmt} {scope : Scope} {dvs : List V} {kws : List (Str × V)} {N ps : List Str} {b : FStm}
    (F : FunD K x qual params body scope dvs kws f fd) (S : FnScope N ps scope)
    (hb : ∀ (cdv : Value) (A : Around) (outer : List Env) (s : Shared) (H : Hp) (E : XK), Room k (A.deeper (envOfC qual scope s.heap.objs.size f cdv)) → A.guards = some [] →
      MSs (cxOf (L2.CX P w) P w K mg base N qual scope f cdv A outer s H E) (fun c d _ H' => E c d H') body b) : FnM P w K mg base (k + 1) f fd ps (run b N.length) := by
  obtain ⟨oc, od, dV, kV, doc, pm, an, cdv, ct, osl, rfl, lk, hcd, _, _⟩ := F.ex
  refine ⟨fun A outer s H args Q E G hr hg e0 hbnd hsp => ?_⟩
  refine StX.run_bnd lk hcd S hr e0 hbnd fun s2 H2 vs g hr2 => ⟨_, hb cdv A outer s2 H2 E hr2 hg, ?_⟩
  obtain ⟨μ, M, ds, r, q, a⟩ := hsp vs H2 g
  refine ⟨μ, M, _, r, ev_start N q, ?_⟩
  unfold run at a
  cases hg : b (st0 N.length ds) M with
  | go fl ρ' M' =>
    rw [hg] at a
    cases fl with
    | nx => exact fun μ' H' σ' l r' e' => a μ' H' .non l r' (by unfold DV; rfl)
    | ret d => exact a
    | bk => exact a.elim
    | ct => exact a.elim
  | ex e ρ' M' => rw [hg] at a; exact fun μ' H' σ' c d l r' e' x => a μ' H' c d l r' x
  | no => rw [hg] at a; exact a
section
variable {X : Cx} {W : WX} {k : Nat} {f C : Addr} {fd : FuncData} {ps : List Str} {m : FL}
/-- values that a call adds: defaults -/
structure Dfl (K : PySem.W.Frag) (dd : List D) (dv : List V) : Prop where
  rel : ∀ (μ : Nat → Addr) (N : Nat) (H : Hp), DVs K μ N H dd dv
theorem Dfl.nil {K : PySem.W.Frag} : Dfl K [] [] := ⟨fun _ _ _ => DVs.nil⟩
theorem Dfl.int {K : PySem.W.Frag} {i : Int} {dd : List D} {dv : List V} (h : Dfl K dd dv) : Dfl K (.int i :: dd) (.int i :: dv) := ⟨fun _ _ _ => DVs.cons (by unfold DV; rfl) (h.rel ..)⟩
theorem Dfl.bl {K : PySem.W.Frag} {i : Bool} {dd : List D} {dv : List V} (h : Dfl K dd dv) : Dfl K (.bl i :: dd) (.bl i :: dv) := ⟨fun _ _ _ => DVs.cons (by unfold DV; rfl) (h.rel ..)⟩
/-- how arguments come to parameters: n values by place, keywords ks; gD puts the data in the parameters' order -/
structure AB (P : Program) (w : World) (K : PySem.W.Frag) (mg : Str → Option Value) (base : Heap) (fd : FuncData) (ps : List Str) (n : Nat) (ks : List Str) (gD : List D → List D → List D) : Prop where
  bnd : ∀ (A : Around) (outer : List Env) (s : Shared) (H : Hp) (E : XK) (us ws : List Value) (vs zs : List V) (μ : Nat → Addr) (M : Mem) (ds es : List D), Env0 P w K mg base A outer s H → us.length = n → ws.length = ks.length → Vals vs us → Vals zs ws →
    Rel K μ M H → DVs K μ M.length H ds vs → DVs K μ M.length H es zs →
    StX.Bnd (L2.CX P w) P w K mg base fd ⟨us, ks.zip ws⟩ ps A outer s H E (fun vs' H2 => Rel K μ M H2 ∧ Lift μ M.length H μ M.length H2 ∧ DVs K μ M.length H2 (gD ds es) vs')
section
variable {P : Program} {w : World} {K : PySem.W.Frag} {mg : Str → Option Value} {base : Heap}
theorem Env0.kin (e : Env0 P w K mg base A outer s H) : K.In s.heap := e.mod.kin.keeps fun b o q => (e.bs b o q).1
/-- by place, defaults added -/
theorem AB.of_binds {fd : FuncData} {ps : List Str} {n : Nat} {du : List Value} {dv : List V} {dd : List D} (hb : Binds K fd ps du) (hd : Vals dv du) (hdd : Dfl K dd dv) (hn : n + dd.length = ps.length) : AB P w K mg base fd ps n [] (fun ds _ => ds ++ dd) := by
  refine ⟨fun A outer s H E us ws vs zs μ M ds es e0 l1 l2 rv rz r q qz A' Ex Q k => ?_⟩
  have r2 : Vals (vs ++ dv) (us ++ du) := rv.append hd
  have hl : (vs ++ dv).length = ps.length := by
    rw [List.length_append, rv.length, l1, (hdd.rel μ M.length H).length]; exact hn
  refine hb s us (Env0.kin e0) (by rw [← r2.length]; exact hl) _ _ _ _ ?_
  exact k s H _ _ e0 Un.refl rfl (fun _ _ z => z) r2 hl ⟨r, Lift.refl .., q.append (hdd.rel ..)⟩
theorem AB.of_kbn {fd : FuncData} {ps : List Str} {n : Nat} {ks : List Str} {g : List Value → List Value → List Value} {gV : List V → List V → List V} {gD : List D → List D → List D} (hb : KBn K fd ps n ks g gV)
    (hl : ∀ vs zs : List V, vs.length = n → zs.length = ks.length → (gV vs zs).length = ps.length)
    (hd : ∀ (μ : Nat → Addr) (N : Nat) (H : Hp) (ds : List D) (vs : List V) (es : List D) (zs : List V), DVs K μ N H ds vs → DVs K μ N H es zs → ds.length = n → es.length = ks.length → DVs K μ N H (gD ds es) (gV vs zs)) : AB P w K mg base fd ps n ks gD := by
  refine ⟨fun A outer s H E us ws vs zs μ M ds es e0 l1 l2 rv rz r q qz A' Ex Q k => ?_⟩
  refine hb.to s us ws (Env0.kin e0) l1 l2 _ _ _ _ ?_
  refine k s H _ _ e0 Un.refl rfl (fun _ _ z => z) (hb.rel rv rz) (hl _ _ (rv.length.trans l1) (rz.length.trans l2)) ⟨r, Lift.refl .., hd _ _ _ _ _ _ _ q qz ?_ ?_⟩
  · rw [← q.length, rv.length, l1]
  · rw [← qz.length, rz.length, l2]
/-- def f(a, .., *v): what is left over is a new tuple -/
theorem AB.of_star {fd : FuncData} {ps : List Str} {pv : Str} (n : Nat) (hn : ps.length ≤ n) (hz : n ≤ 1000)
    (hb : ∀ us rest : List Value, us.length = ps.length → bindArgs fd ⟨us ++ rest, []⟩ = (newTuple rest >>= fun t => pure (ps.zip us ++ [(pv, t)]))) : AB P w K mg base fd (ps ++ [pv]) n [] (fun ds _ => ds.take ps.length ++ [.tup (ds.drop ps.length)]) := by
  refine ⟨fun A outer s H E us ws vs zs μ M ds es e0 l1 l2 rv rz r q qz A' Ex Q k => ?_⟩
  have hu : us = us.take ps.length ++ us.drop ps.length := (List.take_append_drop ..).symm
  have hlu : (us.take ps.length).length = ps.length := by rw [List.length_take]; omega
  show wpAny _ _ (bindArgs fd ⟨us, []⟩) _ _ _
  rw [hu, hb _ _ hlu]
  have hld : (us.drop ps.length).length ≤ sizeLine := by
    rw [List.length_drop, l1]
    have : (1000 : Nat) ≤ sizeLine := by decide
    omega
  refine wpAny_bind (wpAny_newObj_type ?_ hld)
  refine wpAny_pure ?_
  have hfr : H s.heap.objs.size = Option.none := e0.hok.fresh (Nat.le_refl _)
  have new : ObjOk P w (upd H s.heap.objs.size (.tup (vs.drop ps.length))) (s.heap.push { cls := .type "tuple", data := .seq (us.drop ps.length).toArray }) s.heap.objs.size (.tup (vs.drop ps.length)) := by
    refine ⟨by rw [List.length_drop, rv.length, ← List.length_drop]; exact hld, us.drop ps.length, rv.drop _, ?_⟩
    exact IsTup.new s.heap _
  have e1 := StX.env0_laid e0 new
  have un : Un (frs outer) [] H (upd H s.heap.objs.size (.tup (vs.drop ps.length))) s.heap (s.heap.push { cls := .type "tuple", data := .seq (us.drop ps.length).toArray }) := StX.un_laid hfr
  have hz : (ps ++ [pv]).zip (us.take ps.length ++ [Value.ref s.heap.objs.size]) = ps.zip (us.take ps.length) ++ [(pv, Value.ref s.heap.objs.size)] := by
    rw [List.zip_append hlu.symm]; rfl
  rw [← hz]
  refine k { s with heap := s.heap.push { cls := .type "tuple", data := .seq (us.drop ps.length).toArray } } _ (vs.take ps.length ++ [V.ref s.heap.objs.size]) _ e1 un rfl (fun e s' z => ?_) ((rv.take _).append (.cons rfl .nil)) ?_ ⟨r.fresh hfr, Lift.fresh hfr, ?_⟩
  · exact StX.cxUp outer s H { s with heap := s.heap.push { cls := .type "tuple", data := .seq (us.drop ps.length).toArray } } (upd H s.heap.objs.size (.tup (vs.drop ps.length))) E e s' un (fun b o q => Heap.get?_push_of_some _ q) rfl z
  · rw [List.length_append, List.length_append, List.length_take, rv.length, l1]
    simp only [List.length_singleton]; omega
  · refine ((q.take _).lift (Lift.fresh hfr)).append (DVs.cons ?_ DVs.nil)
    unfold DV
    exact ⟨_, _, rfl, SqT.of upd_same, (q.drop _).lift (Lift.fresh hfr)⟩
end
/-- a callee runs -/
theorem run_m {pins : List (Addr × Obj)} {σ : L2.St} {H : Hp} {s : Shared} {Q : VK} {us ws : List Value} {vs zs : List V} {n : Nat} {ks : List Str} {gD : List D → List D → List D} {μ : Nat → Addr} {M : Mem} {ds es : List D} (F : FnM X.prog X.w X.K X.mg X.base k f fd ps m) (hab : AB X.prog X.w X.K X.mg X.base fd ps n ks gD)
    (hr : Room k X.A) (hg : X.A.guards = some []) (tk : Takes X W) (I : Inv X pins σ H s) (rv : Vals vs us) (rz : Vals zs ws) (r : Rel X.K μ M H) (q : DVs X.K μ M.length H ds vs) (qz : DVs X.K μ M.length H es zs) (l1 : ds.length = n) (l2 : es.length = ks.length)
    (a : Ans X.K (DV X.K) (fun c d H' => W c d σ H') μ M.length H (m (gD ds es) M) Q) : wpAny (model X.prog X.w) X.A (call (.ref f) us (ks.zip ws)) (EP X pins σ Q) X.xe s := by
  have hb := hab.bnd X.A X.stack s H (fun c d H' => W c d σ H') us ws vs zs μ M ds es I.env0 (by rw [← rv.length, q.length, l1]) (by rw [← rz.length, qz.length, l2]) rv rz r q qz
  refine wpAny_call (codeAny_mono (F.run X.A X.stack s H _ Q _ _ hr hg I.env0 hb fun v H2 ⟨r2, l, q2⟩ => ⟨μ, M, _, r2, q2, Ans.rebase l a⟩) fun r s' hq => ?_)
  cases r with
  | error e => exact tk e s' (XE.of_call I (fun _ _ _ z => z) hq)
  | ok fl =>
    cases fl with
    | ret u => exact I.after hq
    | next => exact False.elim hq
    | brk => exact False.elim hq
    | cont => exact False.elim hq
def gCall (n : Nat) (gD : List D → List D → List D) (m : FL) : FL := fun ds M => if ds.length = n then m (gD ds []) M else .no
/-- f(..) by place -/
theorem me_call {x : Str} {p pos : Pos} {e : Expr} {es : List Expr} {g : FA} {n : Nat} {gD : List D → List D → List D} (F : FnM X.prog X.w X.K X.mg X.base k f fd ps m) (hab : AB X.prog X.w X.K X.mg X.base fd ps n [] gD) (hr : Room k X.A) (hgd : X.A.guards = some []) (tk : Takes X W) (hg : Gl X x) (hm : X.mg x = some (.ref f))
    (hk : PySem.W.keepIn X.K (.ref f) = true) (ha : MA X W (e :: es) g) (hdb : (x == ("__debug__" : Str)) = false := by decide)
    (he : starEach (e :: es) X.env = (false, eval e X.env) :: starEach es X.env := by rfl) (hpl : (backTo pos (starEach es X.env)).any (·.1) = false := by rfl) : ME X W (.Call (.Name x p) (e :: es) [] pos) (eL (gCall n gD m) g) := by
  refine ⟨fun pins s σ H Q I h => ?_⟩
  refine wpAny_Call_Name_kw (ld_glob I hg hm ?_ hdb)
  refine PySem.W.callWith_K (h₀ := X.base) I.ok.mod.kin hk (thn (ha.run pos pins s σ H _ I (tM.seq (rel := DVs X.K) h)) fun us s1 ⟨vs, H1, I1, r, q⟩ => ⟨I1.kIn, ?_⟩) he hpl
  obtain ⟨μ, M, ρ, ds, r1, e1, q1, a⟩ := q
  unfold gCall at a
  split at a
  · rename_i hl
    exact run_m (ws := []) (zs := []) (es := []) F hab hr hgd tk I1 r .nil r1 q1 DVs.nil hl rfl a
  · exact a.elim
/-- f() -/
theorem me_call0 {x : Str} {p pos : Pos} {gD : List D → List D → List D} (F : FnM X.prog X.w X.K X.mg X.base k f fd ps m) (hab : AB X.prog X.w X.K X.mg X.base fd ps 0 [] gD) (hr : Room k X.A) (hgd : X.A.guards = some []) (tk : Takes X W) (hg : Gl X x) (hm : X.mg x = some (.ref f))
    (hk : PySem.W.keepIn X.K (.ref f) = true) (hdb : (x == ("__debug__" : Str)) = false := by decide) : ME X W (.Call (.Name x p) [] [] pos) (eL (gCall 0 gD m) aN) := by
  refine ⟨fun pins s σ H Q I ⟨μ, M, ρ, r1, e1, a⟩ => ?_⟩
  refine wpAny_Call_Name_kw (ld_glob I hg hm ?_ hdb)
  exact PySem.W.callWith_K0 I.kIn hk (run_m (us := []) (ws := []) (zs := []) (es := []) F hab hr hgd tk I .nil .nil r1 DVs.nil DVs.nil rfl rfl a)
/-- keywords' values -/
def MK (X : Cx) (W : WX) (kws : List Keyword) (g : FA) : Prop := PK X kws (tM X.K (DVs X.K) W g)
theorem PK.weak {kws : List Keyword} {t t' : TA} (h : PK X kws t) (w : ∀ σ H Q, t' σ H Q → t σ H Q) : PK X kws t' := ⟨fun p pins s σ H Q I hw => h.run p pins s σ H Q I (w σ H Q hw)⟩
theorem mk_nil : MK X W [] aN := PK.weak pk_nil fun σ H Q ⟨μ, M, ρ, r, e, q⟩ => q μ H [] (Lift.refl ..) r DVs.nil
theorem mk_cons {e : Expr} {f : FE} {g : FA} {kws : List Keyword} {nm : Option Str} {kpos : Pos} (ha : ME X W e f) (hr : MK X W kws g) : MK X W (⟨nm, e, kpos⟩ :: kws) (aC f g) := by
  refine PK.weak (pk_cons ha hr) fun σ H Q h => ?_
  refine tM.mono (fun v H1 ⟨μ, M, ρ, d, r, e, q, a1⟩ => ?_) (tM.seq (rel := DV X.K) h)
  have a2 := Ans.bind (rel := DVs X.K) a1
  refine ⟨μ, M, ρ, r, e, a2.mono (fun u H2 ⟨μ1, M1, d1, l, r1, q1, a3⟩ => ?_) fun _ _ _ z => z⟩
  exact a3 μ1 H2 _ (Lift.refl ..) r1 (DVs.cons (q.lift l) q1)
def eK (n m' : Nat) (gD : List D → List D → List D) (m : FL) (a b : FA) : FE := fun ρ M => (a ρ M).bind fun ds M1 => (b ρ M1).bind fun es M2 => if ds.length = n ∧ es.length = m' then m (gD ds es) M2 else .no
/-- f(.., k = v, ..) -/
theorem me_callK {x : Str} {p pos : Pos} {e : Expr} {es : List Expr} {kws : List Keyword} {g g' : FA} {n : Nat} {ks : List Str} {gD : List D → List D → List D} (F : FnM X.prog X.w X.K X.mg X.base k f fd ps m) (hab : AB X.prog X.w X.K X.mg X.base fd ps n ks gD) (hr : Room k X.A) (hgd : X.A.guards = some []) (tk : Takes X W) (hg : Gl X x) (hm : X.mg x = some (.ref f))
    (hk : PySem.W.keepIn X.K (.ref f) = true) (ha : MA X W (e :: es) g) (hkw : MK X W kws g') (hall : (backToKw pos (keywordEach kws X.env)).all (·.1.isSome) = true := by rfl) (hks : (backToKw pos (keywordEach kws X.env)).filterMap (·.1) = ks := by rfl)
    (hdb : (x == ("__debug__" : Str)) = false := by decide) (he : starEach (e :: es) X.env = (false, eval e X.env) :: starEach es X.env := by rfl) (hpl : ((backTo pos (starEach (e :: es) X.env)).any (·.1) || (backToKw pos (keywordEach kws X.env)).any (·.1.isNone)) = false := by rfl) :
    ME X W (.Call (.Name x p) (e :: es) kws pos) (eK n ks.length gD m g g') := by
  refine ⟨fun pins s σ H Q I h => ?_⟩
  refine wpAny_Call_Name_kw (ld_glob I hg hm ?_ hdb)
  refine PySem.W.callWith_KW (h₀ := X.base) I.ok.mod.kin hk hall (thn (ha.run pos pins s σ H _ I (tM.seq (rel := DVs X.K) h)) fun us s1 ⟨vs, H1, I1, r, q⟩ => ?_) hpl he
  obtain ⟨μ, M, ρ, ds, r1, e1, q1, a⟩ := q
  have a2 := Ans.bind (rel := DVs X.K) a
  refine thn (hkw.run pos pins s1 σ H1 _ I1 ⟨μ, M, ρ, r1, e1, a2⟩) fun ws s2 ⟨zs, H2, I2, rz, q2⟩ => ⟨I2.kIn, ?_⟩
  obtain ⟨μ2, M2, es2, l, r2, q2, a3⟩ := q2
  rw [hks]
  split at a3
  · rename_i hl
    exact run_m F hab hr hgd tk I2 r rz r2 (q1.lift l) q2 hl.1 hl.2 a3
  · exact a3.elim
/-- f(k = v, ..) -/
theorem me_callK0 {x : Str} {p pos : Pos} {kws : List Keyword} {g' : FA} {ks : List Str} {gD : List D → List D → List D} (F : FnM X.prog X.w X.K X.mg X.base k f fd ps m) (hab : AB X.prog X.w X.K X.mg X.base fd ps 0 ks gD) (hr : Room k X.A) (hgd : X.A.guards = some []) (tk : Takes X W) (hg : Gl X x) (hm : X.mg x = some (.ref f))
    (hk : PySem.W.keepIn X.K (.ref f) = true) (hkw : MK X W kws g') (hall : (backToKw pos (keywordEach kws X.env)).all (·.1.isSome) = true := by rfl) (hks : (backToKw pos (keywordEach kws X.env)).filterMap (·.1) = ks := by rfl)
    (hdb : (x == ("__debug__" : Str)) = false := by decide) (hpl : ((backTo pos (starEach [] X.env)).any (·.1) || (backToKw pos (keywordEach kws X.env)).any (·.1.isNone)) = false := by rfl) :
    ME X W (.Call (.Name x p) [] kws pos) (eK 0 ks.length gD m aN g') := by
  refine ⟨fun pins s σ H Q I h => ?_⟩
  refine wpAny_Call_Name_kw (ld_glob I hg hm ?_ hdb)
  refine PySem.W.callWith_KW0 (h₀ := X.base) I.ok.mod.kin hk hall ?_ hpl
  obtain ⟨μ, M, ρ, r1, e1, a⟩ := h
  have a2 := Ans.bind (r := g' ρ M) (rel := DVs X.K) (g := fun es M2 => if ([] : List D).length = 0 ∧ es.length = ks.length then m (gD [] es) M2 else .no) a
  refine thn (hkw.run pos pins s σ H _ I ⟨μ, M, ρ, r1, e1, a2⟩) fun ws s2 ⟨zs, H2, I2, rz, q2⟩ => ⟨I2.kIn, ?_⟩
  obtain ⟨μ2, M2, es2, l, r2, q2, a3⟩ := q2
  rw [hks]
  split at a3
  · rename_i hl
    exact run_m (us := []) F hab hr hgd tk I2 .nil rz r2 (DVs.nil) q2 hl.1 hl.2 a3
  · exact a3.elim
end
end Br
set_option Elab.async false
set_option linter.all false
set_option maxRecDepth 100000
set_option maxHeartbeats 4000000
namespace Br
open PySem PySem.Spec PyProof.Rows L2
/-! ### numbers -/
def gAdd : F2 := fun a b M => match a, b with
  | .int i, .int j => .ok (.int (i + j)) M
  | .str x, .str y => if x.length + y.length ≤ sizeLine then .ok (.str (x ++ y)) M else .no
  | .tup xs, .tup ys => if xs.length + ys.length ≤ sizeLine then .ok (.tup (xs ++ ys)) M else .no
  | _, _ => .no
def gSub : F2 := fun a b M => match a, b with
  | .int i, .int j => .ok (.int (i - j)) M
  | _, _ => .no
def mulOk (i j : Int) : Bool := decide ((-(2 ^ 64) < i ∧ i < 2 ^ 64) ∨ (-(2 ^ 64) < j ∧ j < 2 ^ 64) ∨ (i.natAbs < 2 ^ 400 ∧ j.natAbs < 2 ^ 400))
def gMul : F2 := fun a b M => match a, b with
  | .int i, .int j => if mulOk i j = true then .ok (.int (i * j)) M else .no
  | .tup xs, .int k => if xs ≠ [] ∧ 2 ≤ k ∧ k ≤ 1000 ∧ xs.length ≤ 1000 then .ok (.tup (List.replicate k.toNat xs).flatten) M else if k = 1 then .ok (.tup xs) M else .no
  | _, _ => .no
def gFdiv : F2 := fun a b M => match a, b with
  | .int i, .int j => if 0 < j ∧ j < 2 ^ 64 then .ok (.int (i / j)) M else .no
  | _, _ => .no
def gMod : F2 := fun a b M => match a, b with
  | .int i, .int j => if 0 < j then .ok (.int (i % j)) M else .no
  | _, _ => .no
def gPow : F2 := fun a b M => match a, b with
  | .int i, .int j => if 0 ≤ j ∧ j ≤ 1000 ∧ i.natAbs < 2 ^ 200 then .ok (.int (i ^ j.toNat)) M else .no
  | _, _ => .no
def gNeg : F1 := fun a M => match a with
  | .int i => .ok (.int (-i)) M
  | _ => .no
/-- a pure answer -/
theorem ans_pure {K : PySem.W.Frag} {W : W0} {μ : Nat → Addr} {M : Mem} {H : Hp} {d : D} {v : V} {Q : VK} (r : Rel K μ M H) (q : DV K μ M.length H d v) (a : Ans K (DV K) W μ M.length H (.ok d M) Q) : Q v H := a μ H v (Lift.refl ..) r q
theorem dv_int {K : PySem.W.Frag} {μ : Nat → Addr} {N : Nat} {H : Hp} {i : Int} : DV K μ N H (.int i) (.int i) := by unfold DV; rfl
theorem dv_bl {K : PySem.W.Frag} {μ : Nat → Addr} {N : Nat} {H : Hp} {i : Bool} : DV K μ N H (.bl i) (.bl i) := by unfold DV; rfl
theorem dv_str {K : PySem.W.Frag} {μ : Nat → Addr} {N : Nat} {H : Hp} {i : Str} : DV K μ N H (.str i) (.str i) := by unfold DV; rfl
theorem dv_non {K : PySem.W.Frag} {μ : Nat → Addr} {N : Nat} {H : Hp} : DV K μ N H .non .non := by unfold DV; rfl
theorem int_dv {K : PySem.W.Frag} {μ : Nat → Addr} {N : Nat} {H : Hp} {i : Int} {v : V} (h : DV K μ N H (.int i) v) : v = .int i := by unfold DV at h; exact h
theorem bl_dv {K : PySem.W.Frag} {μ : Nat → Addr} {N : Nat} {H : Hp} {i : Bool} {v : V} (h : DV K μ N H (.bl i) v) : v = .bl i := by unfold DV at h; exact h
theorem str_dv {K : PySem.W.Frag} {μ : Nat → Addr} {N : Nat} {H : Hp} {i : Str} {v : V} (h : DV K μ N H (.str i) v) : v = .str i := by unfold DV at h; exact h
theorem non_dv {K : PySem.W.Frag} {μ : Nat → Addr} {N : Nat} {H : Hp} {v : V} (h : DV K μ N H .non v) : v = .non := by unfold DV at h; exact h
theorem tup_dv {K : PySem.W.Frag} {μ : Nat → Addr} {N : Nat} {H : Hp} {ds : List D} {v : V} (h : DV K μ N H (.tup ds) v) : ∃ a xs, v = .ref a ∧ SqT K H a xs ∧ DVs K μ N H ds xs := by unfold DV at h; exact h
theorem lst_dv {K : PySem.W.Frag} {μ : Nat → Addr} {N : Nat} {H : Hp} {ds : List D} {v : V} (h : DV K μ N H (.lst ds) v) : ∃ a xs, v = .ref a ∧ SqF K H a xs ∧ DVs K μ N H ds xs := by unfold DV at h; exact h
theorem ref_dv {K : PySem.W.Frag} {μ : Nat → Addr} {N : Nat} {H : Hp} {n : Nat} {v : V} (h : DV K μ N H (.ref n) v) : n < N ∧ v = .ref (μ n) := by unfold DV at h; exact h
theorem dv_tup {K : PySem.W.Frag} {μ : Nat → Addr} {N : Nat} {H : Hp} {ds : List D} {a : Addr} {xs : List V} (s : SqT K H a xs) (q : DVs K μ N H ds xs) : DV K μ N H (.tup ds) (.ref a) := by unfold DV; exact ⟨a, xs, rfl, s, q⟩
theorem dv_lst {K : PySem.W.Frag} {μ : Nat → Addr} {N : Nat} {H : Hp} {ds : List D} {a : Addr} {xs : List V} (s : SqF K H a xs) (q : DVs K μ N H ds xs) : DV K μ N H (.lst ds) (.ref a) := by unfold DV; exact ⟨a, xs, rfl, s, q⟩
section
variable {X : Cx}
theorem DVs.ne_nil {K : PySem.W.Frag} {μ : Nat → Addr} {N : Nat} {H : Hp} {ds : List D} {vs : List V} (h : DVs K μ N H ds vs) : vs = [] ↔ ds = [] := by
  have e := h.length
  cases ds <;> cases vs <;> simp_all
theorem om_add : OpM X (binaryOp .Add) gAdd := by
  intro W pins s σ H x y v u Q I rx ry ⟨μ, M, a, b, r, qa, qb, an⟩
  unfold gAdd at an
  split at an
  · rw [int_dv qa] at rx; rw [int_dv qb] at ry
    exact op_add pins s σ H _ _ v u Q I rx ry ⟨_, _, rfl, rfl, ans_pure r dv_int an⟩
  · split at an
    · rename_i hl
      rw [str_dv qa] at rx; rw [str_dv qb] at ry
      exact op_add_str pins s σ H _ _ v u Q I rx ry ⟨_, _, rfl, rfl, hl, ans_pure r dv_str an⟩
    · exact an.elim
  · split at an
    · rename_i xs ys hl
      obtain ⟨a1, x1, e1, s1, d1⟩ := tup_dv qa
      obtain ⟨a2, x2, e2, s2, d2⟩ := tup_dv qb
      subst e1; subst e2
      refine op_catA pins s σ H _ _ v u Q I rx ry ⟨a1, a2, x1, x2, rfl, rfl, s1, s2, by rw [d1.length, d2.length]; exact hl, fun z => ?_, fun _ z => ?_, fun _ _ p hp => ?_⟩
      · have := d1.ne_nil.mp z; subst this
        exact ans_pure r qb an
      · have := d2.ne_nil.mp z; subst this
        rw [List.append_nil] at an
        exact ans_pure r qa an
      · exact ans_tup r (d1.append d2) an p hp
    · exact an.elim
  · exact an.elim
theorem om_sub : OpM X (binaryOp .Sub) gSub := by
  intro W pins s σ H x y v u Q I rx ry ⟨μ, M, a, b, r, qa, qb, an⟩
  unfold gSub at an
  split at an
  · rw [int_dv qa] at rx; rw [int_dv qb] at ry
    exact op_sub pins s σ H _ _ v u Q I rx ry ⟨_, _, rfl, rfl, ans_pure r dv_int an⟩
  · exact an.elim
theorem op_mulX : OpR X (binaryOp .Mult) (rI (fun i j => mulOk i j = true) fun i j => .int (i * j)) := by
  intro pins s σ H x y v u Q I rx ry ⟨i, j, e1, e2, h, q⟩
  have h : (-(2 ^ 64) < i ∧ i < 2 ^ 64) ∨ (-(2 ^ 64) < j ∧ j < 2 ^ 64) ∨ (i.natAbs < 2 ^ 400 ∧ j.natAbs < 2 ^ 400) := of_decide_eq_true h
  rcases h with h | h | h
  · exact op_mul pins s σ H x y v u Q I rx ry ⟨i, j, e1, e2, .inl h, q⟩
  · exact op_mul pins s σ H x y v u Q I rx ry ⟨i, j, e1, e2, .inr h, q⟩
  · exact op_mulW pins s σ H x y v u Q I rx ry ⟨i, j, e1, e2, wide_mul h.1 h.2 (by decide) (by decide) (by decide), q⟩
theorem mul_one_tuple {prog : Program} {w : World} {A : Around} {E : Value → Shared → Prop} {s : Shared} : True := trivial
theorem intBits_le (i : Int) : Builtin.Int.intBits i ≤ i.natAbs.log2 + 1 := by
  unfold Builtin.Int.intBits
  split <;> omega
theorem op_powX : OpR X (binaryOp .Pow) (rI (fun i j => 0 ≤ j ∧ j ≤ 1000 ∧ i.natAbs < 2 ^ 200) fun i j => .int (i ^ j.toNat)) := by
  intro pins s σ H x y v u Q I rx ry ⟨i, j, e1, e2, ⟨h1, h2, h3⟩, q⟩
  subst e1; subst e2
  obtain ⟨t, rfl⟩ := rx
  obtain ⟨t', rfl⟩ := ry
  refine pow_int h1 ?_ ⟨.int _, H, I.tok _, ⟨_, rfl⟩, q⟩
  have l1 := intBits_le i
  have l2 : i.natAbs.log2 < 200 := PySem.Flt.log2_lt_of (by decide) h3
  have l3 : Builtin.Int.intBits i ≤ 200 := by omega
  have l4 : ((Builtin.Int.intBits i : Nat) : Int) ≤ 200 := by omega
  have : ((Builtin.Int.intBits i : Nat) : Int) * j ≤ 200 * 1000 := Int.mul_le_mul l4 h2 h1 (by decide)
  omega
theorem om_fdiv : OpM X (binaryOp .FloorDiv) gFdiv := by
  intro W pins s σ H x y v u Q I rx ry ⟨μ, M, a, b, r, qa, qb, an⟩
  unfold gFdiv at an
  split at an
  · split at an
    · rename_i i j h
      rw [int_dv qa] at rx; rw [int_dv qb] at ry
      refine op_fdivW pins s σ H _ _ v u Q I rx ry ⟨_, _, rfl, rfl, wide_div (b := 64) h.1 ?_ (by decide) (by decide), ans_pure r dv_int an⟩
      have := h.2
      omega
    · exact an.elim
  · exact an.elim
theorem om_mod : OpM X (binaryOp .Mod) gMod := by
  intro W pins s σ H x y v u Q I rx ry ⟨μ, M, a, b, r, qa, qb, an⟩
  unfold gMod at an
  split at an
  · split at an
    · rename_i h
      rw [int_dv qa] at rx; rw [int_dv qb] at ry
      exact op_mod pins s σ H _ _ v u Q I rx ry ⟨_, _, rfl, rfl, h, ans_pure r dv_int an⟩
    · exact an.elim
  · exact an.elim
theorem om_pow : OpM X (binaryOp .Pow) gPow := by
  intro W pins s σ H x y v u Q I rx ry ⟨μ, M, a, b, r, qa, qb, an⟩
  unfold gPow at an
  split at an
  · split at an
    · rename_i h
      rw [int_dv qa] at rx; rw [int_dv qb] at ry
      exact op_powX pins s σ H _ _ v u Q I rx ry ⟨_, _, rfl, rfl, h, ans_pure r dv_int an⟩
    · exact an.elim
  · exact an.elim
theorem um_neg : UnM X (unaryOp .USub) gNeg := by
  intro W pins s σ H x v Q I rx ⟨μ, M, a, r, qa, an⟩
  unfold gNeg at an
  split at an
  · rw [int_dv qa] at rx
    exact un_neg pins s σ H _ v Q I rx ⟨_, rfl, ans_pure r dv_int an⟩
  · exact an.elim
/-! ### comparisons of numbers -/
def gI (p : Int → Int → Bool) : F2 := fun a b M => match a, b with
  | .int i, .int j => .ok (.bl (p i j)) M
  | _, _ => .no
theorem om_int {f : Value → Value → Sem Value} {p : Int → Int → Bool} (h : OpR X f (rI0 fun i j => .bl (p i j))) : OpM X f (gI p) := by
  intro W pins s σ H x y v u Q I rx ry ⟨μ, M, a, b, r, qa, qb, an⟩
  unfold gI at an
  split at an
  · rw [int_dv qa] at rx; rw [int_dv qb] at ry
    exact h pins s σ H _ _ v u Q I rx ry ⟨_, _, rfl, rfl, ans_pure r dv_bl an⟩
  · exact an.elim
def gLt : F2 := gI fun i j => decide (i < j)
def gLe : F2 := gI fun i j => decide (i ≤ j)
def gGt : F2 := gI fun i j => decide (j < i)
def gGe : F2 := gI fun i j => decide (j ≤ i)
theorem om_lt : OpM X (compareOp .Lt) gLt := om_int op_lt
theorem om_le : OpM X (compareOp .LtE) gLe := om_int op_le
theorem om_gt : OpM X (compareOp .Gt) gGt := om_int op_gt
theorem om_ge : OpM X (compareOp .GtE) gGe := om_int op_ge
/-! ### data -/
end
mutual
def toPyR (rs : Nat → Option PyData) : D → Option PyData
  | .non => some .none
  | .bl b => some (.bool b)
  | .int i => some (.int i)
  | .str x => some (.str x)
  | .tup xs => (toPysR rs xs).map .tuple
  | .lst xs => (toPysR rs xs).map .list
  | .ref n => rs n
  | .gl _ => none
  | .ty _ => none
def toPysR (rs : Nat → Option PyData) : List D → Option (List PyData)
  | [] => some []
  | d :: ds => (toPyR rs d).bind fun p => (toPysR rs ds).map (p :: ·)
end
def rsN (M : Mem) : Nat → Nat → Option PyData
  | 0 => fun _ => none
  | k + 1 => fun n => match M[n]? with
    | some (.lst ds) => (toPysR (rsN M k) ds).map .list
    | _ => none
def toPy (M : Mem) : D → Option PyData := toPyR (rsN M 3)
section
variable {K : PySem.W.Frag} {μ : Nat → Addr} {M : Mem} {H : Hp}
mutual
theorem toPyR_ok {rs : Nat → Option PyData} (hr : ∀ n p, n < M.length → rs n = some p → Dp K H (.ref (μ n)) p) : ∀ (d : D) (v : V) (p : PyData), DV K μ M.length H d v → toPyR rs d = some p → Dp K H v p
  | .non, v, p, q, h => by rw [non_dv q]; unfold toPyR at h; cases h; exact .non
  | .bl b, v, p, q, h => by rw [bl_dv q]; unfold toPyR at h; cases h; exact .bl b
  | .int b, v, p, q, h => by rw [int_dv q]; unfold toPyR at h; cases h; exact .int b
  | .str b, v, p, q, h => by rw [str_dv q]; unfold toPyR at h; cases h; exact .str b
  | .tup xs, v, p, q, h => by
    obtain ⟨a, vs, e, s, ds⟩ := tup_dv q
    subst e
    unfold toPyR at h
    cases e : toPysR rs xs with
    | none => rw [e] at h; cases h
    | some ps => rw [e] at h; cases h; exact .tup s (toPysR_ok hr xs vs ps ds e)
  | .lst xs, v, p, q, h => by
    obtain ⟨a, vs, e, s, ds⟩ := lst_dv q
    subst e
    unfold toPyR at h
    cases e : toPysR rs xs with
    | none => rw [e] at h; cases h
    | some ps => rw [e] at h; cases h; exact .lst s.seq (toPysR_ok hr xs vs ps ds e)
  | .ref n, v, p, q, h => by
    obtain ⟨hn, e⟩ := ref_dv q
    subst e
    unfold toPyR at h
    exact hr n p hn h
  | .gl x, v, p, q, h => by unfold toPyR at h; cases h
  | .ty x, v, p, q, h => by unfold toPyR at h; cases h
theorem toPysR_ok {rs : Nat → Option PyData} (hr : ∀ n p, n < M.length → rs n = some p → Dp K H (.ref (μ n)) p) : ∀ (ds : List D) (vs : List V) (ps : List PyData), DVs K μ M.length H ds vs → toPysR rs ds = some ps → DpAll K H vs ps
  | [], vs, ps, q, h => by rw [q.inv_nil]; unfold toPysR at h; cases h; exact .nil
  | d :: ds, vs, ps, q, h => by
    obtain ⟨v, r, e, q1, q2⟩ := q.inv_cons
    subst e
    unfold toPysR at h
    cases e1 : toPyR rs d with
    | none => rw [e1] at h; cases h
    | some p =>
      rw [e1] at h
      cases e2 : toPysR rs ds with
      | none => rw [e2] at h; cases h
      | some ps' => rw [e2] at h; cases h; exact .cons (toPyR_ok hr d v p q1 e1) (toPysR_ok hr ds r ps' q2 e2)
end
theorem rsN_ok (r : Rel K μ M H) : ∀ (k n : Nat) (p : PyData), n < M.length → rsN M k n = some p → Dp K H (.ref (μ n)) p
  | 0, n, p, hn, h => by unfold rsN at h; cases h
  | k + 1, n, p, hn, h => by
    unfold rsN at h
    split at h
    · rename_i ds hd
      obtain ⟨xs, h1, h2⟩ := r.obj n _ hd
      cases e : toPysR (rsN M k) ds with
      | none => rw [e] at h; cases h
      | some ps => rw [e] at h; cases h; exact .lst (SqL.of h1) (toPysR_ok (fun n p => rsN_ok r k n p) ds xs ps h2 e)
    · cases h
theorem toPy_ok (r : Rel K μ M H) {d : D} {v : V} {p : PyData} (q : DV K μ M.length H d v) (h : toPy M d = some p) : Dp K H v p := toPyR_ok (rsN_ok r 3) d v p q h
end
/-- == of data -/
def eqD (M : Mem) (a b : D) : Option Bool := match a, b with
  | .int i, .int j => some (decide (i = j))
  | .str x, .str y => some (decide (x = y))
  | .non, .non => some true
  | .bl x, .bl y => some (x == y)
  | _, _ => (match toPy M a, toPy M b with
    | some p, some q => if SeqAt.shaped p && SeqAt.shaped q then some (PyData.eqv p q) else none
    | _, _ => none)
def gEq : F2 := fun a b M => match eqD M a b with
  | some k => .ok (.bl k) M
  | none => .no
def gNe : F2 := fun a b M => match eqD M a b with
  | some k => .ok (.bl (!k)) M
  | none => .no
section
variable {X : Cx}
theorem eqD_ok {K : PySem.W.Frag} {μ : Nat → Addr} {M : Mem} {H : Hp} {a b : D} {x y : V} {k : Bool} (r : Rel K μ M H) (qa : DV K μ M.length H a x) (qb : DV K μ M.length H b y) (h : eqD M a b = some k) :
    (scal x y = true ∧ k = decide (x = y)) ∨ ∃ d e, Dp K H x d ∧ Dp K H y e ∧ SeqAt.shaped d = true ∧ SeqAt.shaped e = true ∧ k = PyData.eqv d e := by
  unfold eqD at h
  split at h
  · rw [int_dv qa, int_dv qb]; cases h
    refine .inl ⟨rfl, ?_⟩
    rw [Bool.eq_iff_iff]; simp
  · rw [str_dv qa, str_dv qb]; cases h
    refine .inl ⟨rfl, ?_⟩
    rw [Bool.eq_iff_iff]; simp
  · rw [non_dv qa, non_dv qb]; cases h; exact .inl ⟨rfl, rfl⟩
  · rw [bl_dv qa, bl_dv qb]; cases h
    refine .inl ⟨rfl, ?_⟩
    rw [Bool.eq_iff_iff]; simp
  · split at h
    · rename_i p q hp hq
      split at h
      · rename_i hs
        cases h
        have hs := Bool.and_eq_true_iff.mp hs
        exact .inr ⟨p, q, toPy_ok r qa hp, toPy_ok r qb hq, hs.1, hs.2, rfl⟩
      · cases h
    · cases h
theorem om_eq (hu : X.A.units + 64 < cLine) : OpM X (compareOp .Eq) gEq := by
  intro W pins s σ H x y v u Q I rx ry ⟨μ, M, a, b, r, qa, qb, an⟩
  unfold gEq at an
  split at an
  · rename_i k hk
    rcases eqD_ok r qa qb hk with ⟨h, e⟩ | ⟨d, e, h1, h2, h3, h4, h5⟩
    · subst e
      exact op_eq pins s σ H x y v u Q I rx ry ⟨h, ans_pure r dv_bl an⟩
    · subst h5
      exact op_eqD hu pins s σ H x y v u Q I rx ry ⟨d, e, h1, h2, h3, h4, ans_pure r dv_bl an⟩
  · exact an.elim
theorem om_ne (hu : X.A.units + 64 < cLine) : OpM X (compareOp .NotEq) gNe := by
  intro W pins s σ H x y v u Q I rx ry ⟨μ, M, a, b, r, qa, qb, an⟩
  unfold gNe at an
  split at an
  · rename_i k hk
    rcases eqD_ok r qa qb hk with ⟨h, e⟩ | ⟨d, e, h1, h2, h3, h4, h5⟩
    · subst e
      exact op_ne pins s σ H x y v u Q I rx ry ⟨h, ans_pure r dv_bl an⟩
    · subst h5
      exact op_neD hu pins s σ H x y v u Q I rx ry ⟨d, e, h1, h2, h3, h4, ans_pure r dv_bl an⟩
  · exact an.elim
/-- repr of data -/
def gRepr : FL := fun ds M => match ds with
  | [d] => (match toPy M d with
    | some p => if p.showable && !p.hasDict && decide (p.depth ≤ 64) && decide (p.shown.length ≤ sizeLine) then .ok (.str p.shown) M else .no
    | none => .no)
  | _ => .no
end
/-! ### sequences -/
def seqL (M : Mem) : D → Option (List D)
  | .lst xs => some xs
  | .ref n => (match M[n]? with
    | some (.lst xs) => some xs
    | _ => none)
  | _ => none
theorem seqL_ok {K : PySem.W.Frag} {μ : Nat → Addr} {M : Mem} {H : Hp} {d : D} {v : V} {ds : List D} (r : Rel K μ M H) (q : DV K μ M.length H d v) (h : seqL M d = some ds) : ∃ a xs, v = .ref a ∧ SqL K H a xs ∧ DVs K μ M.length H ds xs := by
  cases d with
  | lst ds' =>
    cases h
    obtain ⟨a, xs, e, s, t⟩ := lst_dv q
    exact ⟨a, xs, e, s.seq, t⟩
  | ref n =>
    obtain ⟨hn, e⟩ := ref_dv q
    unfold seqL at h
    dsimp only at h
    split at h
    · rename_i hx
      cases h
      obtain ⟨xs, h1, h2⟩ := r.obj n _ hx
      exact ⟨_, xs, e, SqL.of h1, h2⟩
    · cases h
  | _ => cases h
/-- a list's items or a tuple's -/
def seqA (M : Mem) : D → Option (List D)
  | .tup xs => some xs
  | d => seqL M d
theorem seqA_ok {K : PySem.W.Frag} {μ : Nat → Addr} {M : Mem} {H : Hp} {d : D} {v : V} {ds : List D} (r : Rel K μ M H) (q : DV K μ M.length H d v) (h : seqA M d = some ds) : ∃ a xs, v = .ref a ∧ (SqL K H a xs ∨ SqT K H a xs) ∧ DVs K μ M.length H ds xs := by
  cases d with
  | tup ds' =>
    cases h
    obtain ⟨a, xs, e, s, t⟩ := tup_dv q
    exact ⟨a, xs, e, .inr s, t⟩
  | lst ds' => obtain ⟨a, xs, e, s, t⟩ := seqL_ok r q h; exact ⟨a, xs, e, .inl s, t⟩
  | ref n => obtain ⟨a, xs, e, s, t⟩ := seqL_ok r q h; exact ⟨a, xs, e, .inl s, t⟩
  | _ => cases h
def gIx : F2 := fun a b M => match b with
  | .int i => (match a with
    | .str z => if z.length ≤ sizeLine then (match atI z.cps.toList i with
      | some c => .ok (.str ⟨#[c]⟩) M
      | none => .no) else .no
    | a => (match seqA M a with
      | some xs => (match atI xs i with
        | some d => .ok d M
        | none => .no)
      | none => .no))
  | _ => .no
theorem atI_dv {K : PySem.W.Frag} {μ : Nat → Addr} {N : Nat} {H : Hp} {ds : List D} {vs : List V} {i : Int} {d : D} (q : DVs K μ N H ds vs) (h : atI ds i = some d) : ∃ v, atI vs i = some v ∧ DV K μ N H d v := by
  unfold atI at h ⊢
  rw [q.length]
  cases e : ixN ds.length i with
  | none => rw [e] at h; cases h
  | some j =>
    rw [e] at h
    exact q.get h
section
variable {X : Cx}
theorem ixm : IxM X gIx := by
  intro W value slice pins s σ H x y v u Q I rx ry ⟨μ, M, a, b, r, qa, qb, an⟩ hs
  unfold gIx at an
  split at an
  · rename_i i
    rw [int_dv qb] at ry
    split at an
    · rename_i z
      rw [str_dv qa] at rx
      split at an
      · rename_i hl
        split at an
        · rename_i c hc
          exact ix_str value slice pins s σ H _ _ v u Q I rx ry ⟨z, i, c, rfl, rfl, hl, hc, ans_pure r dv_str an⟩ hs
        · exact an.elim
      · exact an.elim
    · split at an
      · rename_i xs hx
        split at an
        · rename_i d hd
          obtain ⟨p, vs, e, hsq, qs⟩ := seqA_ok r qa hx
          subst e
          obtain ⟨w', hw, dw⟩ := atI_dv qs hd
          rcases hsq with hsq | hsq
          · exact ix_list value slice pins s σ H _ _ v u Q I rx ry ⟨p, vs, i, w', rfl, rfl, hsq, hw, ans_pure r dw an⟩ hs
          · exact ix_tup value slice pins s σ H _ _ v u Q I rx ry ⟨p, vs, i, w', rfl, rfl, hsq, hw, ans_pure r dw an⟩ hs
        · exact an.elim
      · exact an.elim
  · exact an.elim
/-! ### built-in functions -/
def gLen : FL := fun ds M => match ds with
  | [.str z] => if z.length ≤ sizeLine then .ok (.int z.length) M else .no
  | [d] => (match seqA M d with
    | some xs => .ok (.int xs.length) M
    | none => .no)
  | _ => .no
theorem cm_len : CallM X (.builtin "len") gLen := by
  intro W pins s σ H xs us Q I rv ⟨μ, M, as, r, q, an⟩
  unfold gLen at an
  split at an
  · split at an
    · rename_i hl
      obtain ⟨v, r', e, q1, q2⟩ := q.inv_cons
      rw [e, q2.inv_nil, str_dv q1] at rv
      exact call_len_str pins s σ H _ us Q I rv ⟨_, rfl, hl, ans_pure r dv_int an⟩
    · exact an.elim
  · split at an
    · rename_i ds hd
      obtain ⟨v, r', e, q1, q2⟩ := q.inv_cons
      obtain ⟨p, vs, e2, hsq, qs⟩ := seqA_ok r q1 hd
      rw [e, q2.inv_nil, e2] at rv
      refine call_len_seq pins s σ H _ us Q I rv ⟨p, vs, rfl, hsq, ?_⟩
      rw [qs.length]
      exact ans_pure r dv_int an
    · exact an.elim
  · exact an.elim
def gAbs : FL := fun ds M => match ds with
  | [.int i] => .ok (.int (if i < 0 then -i else i)) M
  | _ => .no
theorem cm_abs : CallM X (.builtin "abs") gAbs := by
  intro W pins s σ H xs us Q I rv ⟨μ, M, as, r, q, an⟩
  unfold gAbs at an
  split at an
  · obtain ⟨v, r', e, q1, q2⟩ := q.inv_cons
    rw [e, q2.inv_nil, int_dv q1] at rv
    exact call_abs pins s σ H _ us Q I rv ⟨_, rfl, ans_pure r dv_int an⟩
  · exact an.elim
def gMax : FL := fun ds M => match ds with
  | [.int i, .int j] => .ok (.int (if j > i then j else i)) M
  | _ => .no
def gMin : FL := fun ds M => match ds with
  | [.int i, .int j] => .ok (.int (if j < i then j else i)) M
  | _ => .no
theorem cm_max (hc : X.calm = true) : CallM X (.builtin "max") gMax := by
  intro W pins s σ H xs us Q I rv ⟨μ, M, as, r, q, an⟩
  unfold gMax at an
  split at an
  · obtain ⟨v, r', e, q1, q2⟩ := q.inv_cons
    obtain ⟨v2, r2, e2, q3, q4⟩ := q2.inv_cons
    rw [e, e2, q4.inv_nil, int_dv q1, int_dv q3] at rv
    exact call_max2 hc pins s σ H _ us Q I rv ⟨_, _, rfl, ans_pure r dv_int an⟩
  · exact an.elim
theorem cm_min (hc : X.calm = true) : CallM X (.builtin "min") gMin := by
  intro W pins s σ H xs us Q I rv ⟨μ, M, as, r, q, an⟩
  unfold gMin at an
  split at an
  · obtain ⟨v, r', e, q1, q2⟩ := q.inv_cons
    obtain ⟨v2, r2, e2, q3, q4⟩ := q2.inv_cons
    rw [e, e2, q4.inv_nil, int_dv q1, int_dv q3] at rv
    exact call_min2 hc pins s σ H _ us Q I rv ⟨_, _, rfl, ans_pure r dv_int an⟩
  · exact an.elim
def gInt : FL := fun ds M => match ds with
  | [.int i] => .ok (.int i) M
  | [.bl k] => .ok (.int (if k then 1 else 0)) M
  | _ => .no
theorem cm_int : CallM X (.type "int") gInt := by
  intro W pins s σ H xs us Q I rv ⟨μ, M, as, r, q, an⟩
  unfold gInt at an
  split at an
  · obtain ⟨v, r', e, q1, q2⟩ := q.inv_cons
    rw [e, q2.inv_nil, int_dv q1] at rv
    exact call_int1 pins s σ H _ us Q I rv (.inl ⟨_, rfl, ans_pure r dv_int an⟩)
  · obtain ⟨v, r', e, q1, q2⟩ := q.inv_cons
    rw [e, q2.inv_nil, bl_dv q1] at rv
    exact call_int1 pins s σ H _ us Q I rv (.inr ⟨_, rfl, ans_pure r dv_int an⟩)
  · exact an.elim
theorem cm_repr (hgd : X.A.guards = some []) (hu : X.A.units + 128 < cLine) : CallM X (.builtin "repr") gRepr := by
  intro W pins s σ H xs us Q I rv ⟨μ, M, as, r, q, an⟩
  unfold gRepr at an
  split at an
  · split at an
    · rename_i d p hp
      split at an
      · rename_i hs
        obtain ⟨v, r', e, q1, q2⟩ := q.inv_cons
        rw [e, q2.inv_nil] at rv
        obtain ⟨u, rfl, ru⟩ := vals1 rv
        have hdp := toPy_ok r q1 hp
        simp only [Bool.and_eq_true, decide_eq_true_eq, Bool.not_eq_true'] at hs
        obtain ⟨⟨⟨h1, h2⟩, h3⟩, h4⟩ := hs
        obtain ⟨as', hr⟩ := Dp.reads I p v u hdp ru
        cases hdp with
        | non => cases ru; exact PySem.P.repr_of_none ⟨.str _, H, I.tok _, ⟨_, rfl⟩, ans_pure r dv_str an⟩
        | bl b =>
          cases ru
          refine PySem.P.repr_of_bool ⟨.str _, H, I.tok _, ⟨_, rfl⟩, ?_⟩
          have := ans_pure r dv_str an
          exact this
        | int i =>
          obtain ⟨t, rfl⟩ := ru
          have hi : i.natAbs.log2 < 1920 := by simpa [PyData.showable] using h1
          exact PySem.P.repr_of_int hi ⟨.str _, H, I.tok _, ⟨_, rfl⟩, ans_pure r dv_str an⟩
        | str x =>
          obtain ⟨t, rfl⟩ := ru
          exact PySem.P.repr_of_str ⟨.str _, H, I.tok _, ⟨_, rfl⟩, ans_pure r dv_str an⟩ h4
        | lst hs2 ha =>
          cases ru
          refine repr_of_reads' hr h1 (fun z => by rw [h2] at z; cases z) hgd (by omega) (fun _ _ z => z) (fun h' u tk k => ?_) h4
          exact ⟨.str _, H, I.kept k, ⟨_, rfl⟩, ans_pure r dv_str an⟩
        | tup hs2 ha =>
          cases ru
          refine repr_of_reads' hr h1 (fun z => by rw [h2] at z; cases z) hgd (by omega) (fun _ _ z => z) (fun h' u tk k => ?_) h4
          exact ⟨.str _, H, I.kept k, ⟨_, rfl⟩, ans_pure r dv_str an⟩
      · exact an.elim
    · exact an.elim
  · exact an.elim
end
end Br
set_option Elab.async false
set_option linter.all false
set_option maxRecDepth 100000
set_option maxHeartbeats 4000000
namespace Br
open PySem PySem.Spec PyProof.Rows L2
/-! ### products -/
section
variable {X : Cx}
theorem om_mul : OpM X (binaryOp .Mult) (fun a b M => match a, b with
    | .int i, .int j => if mulOk i j = true then .ok (.int (i * j)) M else .no
    | .tup xs, .int k => if xs ≠ [] ∧ 2 ≤ k ∧ k ≤ 1000 ∧ xs.length ≤ 1000 then .ok (.tup (List.replicate k.toNat xs).flatten) M else .no
    | _, _ => .no) := by
  intro W pins s σ H x y v u Q I rx ry ⟨μ, M, a, b, r, qa, qb, an⟩
  dsimp only at an
  split at an
  · split at an
    · rename_i h
      rw [int_dv qa] at rx; rw [int_dv qb] at ry
      exact op_mulX pins s σ H _ _ v u Q I rx ry ⟨_, _, rfl, rfl, h, ans_pure r dv_int an⟩
    · exact an.elim
  · split at an
    · rename_i xs k h
      obtain ⟨a1, x1, e1, s1, d1⟩ := tup_dv qa
      subst e1
      rw [int_dv qb] at ry
      refine op_repT pins s σ H _ _ v u Q I rx ry ⟨a1, k, x1, rfl, rfl, s1, fun z => h.1 (d1.ne_nil.mp z), h.2.1, h.2.2.1, by rw [d1.length]; exact h.2.2.2, fun p hp => ?_⟩
      exact ans_tup r (d1.rep _) an p hp
    · exact an.elim
  · exact an.elim
/-! ### list + list -/
/-- of any lists that can be read -/
def rCatL (K : PySem.W.Frag) : R2 := fun x y H Q => ∃ a b xs ys, x = .ref a ∧ y = .ref b ∧ SqF' H a xs ∧ SqF' H b ys ∧ xs.length + ys.length ≤ sizeLine ∧ ∀ p, H p = none → Q (.ref p) (upd H p (.lst (xs ++ ys)))
where SqF' (H : Hp) (a : Addr) (xs : List V) : Prop := Rd H a (.lst xs)
theorem rd_lst {pins : List (Addr × Obj)} {s : Shared} {σ : L2.St} {H : Hp} {a : Addr} {xs : List V} (I : Inv X pins σ H s) (h : Rd H a (.lst xs)) : xs.length ≤ sizeLine ∧ ∃ (its : List Value) (n : Nat), Vals xs its ∧ xs.length = its.length ∧ s.heap.get? a = some { cls := .type "list", data := .seq its.toArray n } := by
  obtain ⟨z, its, n, r, e⟩ := h.ok I.hok
  exact ⟨z, its, n, r, r.length, e⟩
theorem op_catL : OpR X (binaryOp .Add) (rCatL X.K) := by
  intro pins s σ H x y v u Q I rx ry h
  obtain ⟨l, b, xs, zs, rfl, rfl, hH, hB, hz, q⟩ := h
  cases rx
  cases ry
  obtain ⟨z, its, n, r, hl, e⟩ := rd_lst I hH
  obtain ⟨z2, its2, n2, r2, hl2, e2⟩ := rd_lst I hB
  refine PySem.P.add_list e e2 ?_ (by rw [List.size_toArray, List.size_toArray]; omega)
  have ea : its.toArray ++ its2.toArray = (its ++ its2).toArray := by simp
  rw [ea]
  exact ⟨.ref _, _, I.lnew (t' := s.toks) (r.append r2) (by rw [List.length_append]; omega), rfl, q _ I.fresh⟩
end
/-- lists that are no constants of the top -/
def seqM (M : Mem) : D → Option (List D) := seqL M
def gCatV : F2 := fun a b M => match seqL M a, seqL M b with
  | some xs, some ys => if xs.length + ys.length ≤ sizeLine then .ok (.lst (xs ++ ys)) M else .no
  | _, _ => .no
def gCatN : F2 := fun a b M => match seqL M a, seqL M b with
  | some xs, some ys => if xs.length + ys.length ≤ sizeLine then .ok (.ref M.length) (M ++ [.lst (xs ++ ys)]) else .no
  | _, _ => .no
/-- no list stands in the written part (told of each address) -/
def NoKL (K : PySem.W.Frag) : Prop := ∀ (a : Addr) (o : Obj), K.lookup a = some o → o.cls ≠ .type "list"
section
variable {X : Cx} {W : WX} {a b e : Expr} {fa fb f : FE} {pos : Pos}
theorem sq_rd {K : PySem.W.Frag} (hk : NoKL K) {H : Hp} {a : Addr} {xs : List V} (h : SqL K H a xs) : Rd H a (.lst xs) := by
  rcases h with h | ⟨o, its, n, h, c, _⟩
  · exact h
  · exact absurd c (hk a o h)
theorem me_catN (hk : NoKL X.K) (ha : ME X W a fa) (hb : ME X W b fb) : ME X W (.BinOp a .Add b pos) (e2 gCatN fa fb) := by
  refine me_op (fun W pins s σ H x y v u Q I rx ry ⟨μ, M, a, b, r, qa, qb, an⟩ => ?_) ha hb
  unfold gCatN at an
  split at an
  · split at an
    · rename_i xs ys h1 h2 hl
      obtain ⟨p1, x1, e1, s1, d1⟩ := seqL_ok r qa h1
      obtain ⟨p2, x2, e2, s2, d2⟩ := seqL_ok r qb h2
      subst e1; subst e2
      exact op_catL pins s σ H _ _ v u Q I rx ry ⟨p1, p2, x1, x2, rfl, rfl, sq_rd hk s1, sq_rd hk s2, by rw [d1.length, d2.length]; exact hl, fun p hp => ans_new r (d1.append d2) an p hp⟩
    · exact an.elim
  · exact an.elim
/-- a made list, locked -/
theorem OpR.lock {f : Value → Value → Sem Value} {r : R2} (h : OpR X f r) : OpR X f (fun x y H Q => r x y H fun z H1 => ∃ a xs, z = .ref a ∧ H1 a = some (.lst xs) ∧ ∀ o, Q z (upd H1 a (.frz o (.lst xs)))) := by
  intro pins s σ H x y v u Q I rx ry hr
  refine thn (h pins s σ H x y v u _ I rx ry hr) fun w s1 ⟨z, H1, I1, rv, a, xs, e1, e2, q⟩ => ?_
  obtain ⟨o, J⟩ := Inv.lock I1 e2
  exact ⟨z, _, J, rv, q o⟩
theorem me_catV (hk : NoKL X.K) (ha : ME X W a fa) (hb : ME X W b fb) : ME X W (.BinOp a .Add b pos) (e2 gCatV fa fb) := by
  refine me_op (fun W pins s σ H x y v u Q I rx ry ⟨μ, M, a, b, r, qa, qb, an⟩ => ?_) ha hb
  unfold gCatV at an
  split at an
  · split at an
    · rename_i xs ys h1 h2 hl
      obtain ⟨p1, x1, e1, s1, d1⟩ := seqL_ok r qa h1
      obtain ⟨p2, x2, e2, s2, d2⟩ := seqL_ok r qb h2
      subst e1; subst e2
      exact OpR.lock op_catL pins s σ H _ _ v u Q I rx ry ⟨p1, p2, x1, x2, rfl, rfl, sq_rd hk s1, sq_rd hk s2, by rw [d1.length, d2.length]; exact hl, fun p hp => ⟨p, _, rfl, upd_same, fun o => ans_lst r (d1.append d2) an p hp o⟩⟩
    · exact an.elim
  · exact an.elim
/-! ### methods of lists -/
end
/-- the memory with a list changed -/
def putL (M : Mem) (n : Nat) (f : List D → List D) : Option Mem := match M[n]? with
  | some (.lst xs) => some (M.set n (.lst (f xs)))
  | _ => none
def gAppend : D → FL := fun a ds M => match a, ds with
  | .ref n, [d] => (match M[n]? with
    | some (.lst xs) => if xs.length < sizeLine then .ok .non (M.set n (.lst (xs ++ [d]))) else .no
    | _ => .no)
  | _, _ => .no
def gPop : D → FL := fun a ds M => match a, ds with
  | .ref n, [] => (match M[n]? with
    | some (.lst xs) => (match xs[xs.length - 1]? with
      | some d => .ok d (M.set n (.lst xs.dropLast))
      | none => .no)
    | _ => .no)
  | _, _ => .no
theorem put_lst {K : PySem.W.Frag} {μ : Nat → Addr} {M : Mem} {H : Hp} {n : Nat} {ds ds' : List D} {xs xs' : List V} (r : Rel K μ M H) (h : M[n]? = some (.lst ds)) (hx : H (μ n) = some (.lst xs)) (q : DVs K μ M.length H ds' xs') :
    Rel K μ (M.set n (.lst ds')) (upd H (μ n) (.lst xs')) ∧ Lift μ M.length H μ (M.set n (.lst ds')).length (upd H (μ n) (.lst xs')) := by
  have hn : n < M.length := (List.getElem?_eq_some_iff.mp h).1
  have l : Lift μ M.length H μ M.length (upd H (μ n) (.lst xs')) := ⟨Nat.le_refl _, fun _ _ => rfl, Kp.lst hx, fun b u e hne => by rw [upd_ne (fun z => hne n hn z.symm)]; exact e, fun n h h' => absurd h (Nat.not_le.mpr h'), fun b e => dom_upd e⟩
  exact r.put hn ⟨xs', upd_same, q.lift l⟩
section
variable {X : Cx} {W : WX} {e o : Expr} {es : List Expr} {fo : FE} {g : FA} {apos cpos : Pos}
/-- o.append(e) -/
theorem me_append (ho : ME X W o fo) (ha : MA X W (e :: es) g) (hbase : attributeBase o "append" X.env (eval o X.env) = eval o X.env := by rfl)
    (hfew : ((backTo cpos (starEach (e :: es) X.env)).all (fun x => !x.1) && (backToKw cpos (keywordEach [] X.env)).all (fun x => x.1.isSome) && decide ((e :: es).length + ([] : List Keyword).length + (if ([] : List Keyword).isEmpty then 0 else 1) < 30)) = true := by rfl)
    (hline : (apos.endLine == cpos.line) = true := by rfl) (hs : starEach (e :: es) X.env = (false, eval e X.env) :: starEach es X.env := by rfl) (hplain : (backTo cpos (starEach es X.env)).any (·.1) = false := by rfl) :
    ME X W (.Call (.Attribute o "append" apos) (e :: es) [] cpos) (fun ρ M => (fo ρ M).bind fun x M1 => match x with
      | .ref n => (match M1[n]? with
        | some (.lst _) => (g ρ M1).bind fun ds M2 => gAppend x ds M2
        | _ => .no)
      | _ => .no) := by
  refine ⟨fun pins s σ H Q I h => ?_⟩
  refine (pe_bm PySem.F.plainAttrs_list PySem.F.slot_list_append PySem.F.type_list_append mt_append ho ha hbase hfew hline hs hplain).run pins s σ H Q I ?_
  refine tM.mono (fun v H1 ⟨μ, M, ρ, d, r, e, q, a1⟩ => ?_) (tM.seq (rel := DV X.K) h)
  split at a1
  · rename_i n
    split at a1
    · rename_i xs hx
      obtain ⟨hn, ev⟩ := ref_dv q
      subst ev
      obtain ⟨ys, hy, _⟩ := r.obj n _ hx
      refine ⟨.inl ⟨rfl, ys, SqL.of hy⟩, ?_⟩
      have a2 := Ans.bind (rel := DVs X.K) a1
      refine ⟨μ, M, ρ, r, e, a2.mono (fun us H2 ⟨μ1, M1, ds, l, r1, q1, a3⟩ => ?_) fun _ _ _ z => z⟩
      cases ds with
      | nil => exact a3.elim
      | cons d dr =>
        cases dr with
        | cons _ _ => exact a3.elim
        | nil =>
          obtain ⟨v2, rr, ev, q2, q3⟩ := q1.inv_cons
          rw [q3.inv_nil] at ev
          subst ev
          have a3 : Ans X.K (DV X.K) (fun c d H' => W c d σ H') μ1 M1.length H2 (match M1[n]? with
            | some (.lst xs) => if xs.length < sizeLine then R.ok D.non (M1.set n (.lst (xs ++ [d]))) else .no
            | _ => .no) Q := a3
          split at a3
          · rename_i zs hz
            split at a3
            · rename_i hl
              obtain ⟨ws, hw, dw⟩ := r1.obj n _ hz
              have eμ : μ1 n = μ n := l.same n hn
              refine ⟨μ n, ws, v2, rfl, rfl, by rw [← eμ]; exact hw, by rw [dw.length]; exact hl, ?_⟩
              have p := put_lst r1 hz hw (dw.append (DVs.cons q2 DVs.nil))
              rw [← eμ]
              exact a3 μ1 _ _ p.2 p.1 dv_non
            · exact a3.elim
          · exact a3.elim
    · exact a1.elim
  · exact a1.elim
/-- o.pop() -/
theorem me_pop (ho : ME X W o fo) (hbase : attributeBase o "pop" X.env (eval o X.env) = eval o X.env := by rfl) (hline : (apos.endLine == cpos.line) = true := by rfl) :
    ME X W (.Call (.Attribute o "pop" apos) [] [] cpos) (fun ρ M => (fo ρ M).bind fun x M1 => gPop x [] M1) := by
  refine ⟨fun pins s σ H Q I h => ?_⟩
  refine (pe_bm0 PySem.F.plainAttrs_list PySem.F.slot_list_pop PySem.F.type_list_pop mt_pop ho hbase hline).run pins s σ H Q I ?_
  refine tM.mono (fun v H1 ⟨μ, M, ρ, d, r, e, q, a1⟩ => ?_) (tM.seq (rel := DV X.K) h)
  unfold gPop at a1
  split at a1
  · rename_i n _
    split at a1
    · rename_i xs hx
      split at a1
      · rename_i d hd
        obtain ⟨hn, ev⟩ := ref_dv q
        subst ev
        obtain ⟨ys, hy, dy⟩ := r.obj n _ hx
        obtain ⟨w', hw, dw⟩ := dy.get hd
        refine ⟨.inl ⟨rfl, ys, SqL.of hy⟩, μ n, ys, w', rfl, rfl, hy, by rw [dy.length]; exact hw, ?_⟩
        have p := put_lst r hx hy dy.dropLast
        exact a1 μ _ _ p.2 p.1 (dw.lift (by have := p.2; rw [List.length_set] at this ⊢; exact this))
      · exact a1.elim
    · exact a1.elim
  · exact a1.elim
end
/-! ### targets -/
def setD (o i d : D) (M : Mem) : Option Mem := match o, i with
  | .ref n, .int k => (match M[n]? with
    | some (.lst xs) => (match ixN xs.length k with
      | some j => some (M.set n (.lst (xs.set j d)))
      | none => none)
    | _ => none)
  | _, _ => none
def gSb (fo fi : FE) : FG := fun d ρ M => SR.of (fo ρ M) ρ fun o M1 => SR.of (fi ρ M1) ρ fun i M2 => match setD o i d M2 with
  | some M3 => .go .nx ρ M3
  | none => .no
def MGs (X : Cx) (W : WX) (ts : List Expr) (g : List D → FStm) : Prop := PGs X ts (fun vs σ H Q => ∃ μ M ρ ds, Rel X.K μ M H ∧ EV X.K μ M.length H ρ σ ∧ DVs X.K μ M.length H ds vs ∧
  AnsS X.K W μ M.length H (g ds ρ M) { nx := Q, rt := fun _ _ => False })
def gsN : List D → FStm := fun ds ρ M => match ds with
  | [] => .go .nx ρ M
  | _ => .no
def gsC (g : FG) (gs : List D → FStm) : List D → FStm := fun ds ρ M => match ds with
  | d :: r => (g d ρ M).then (gs r)
  | _ => .no
def gTp (n : Nat) (gs : List D → FStm) : FG := fun d ρ M => match d with
  | .tup ds => if ds.length = n then gs ds ρ M else .no
  | _ => .no
section
variable {X : Cx} {W : WX} {t o i e : Expr} {ts : List Expr} {fo fi f : FE} {g : FG} {gs : List D → FStm} {pos : Pos}
theorem PGs.weak {t t' : TGs} (h : PGs X ts t) (w : ∀ vs σ H Q, t' vs σ H Q → t vs σ H Q) : PGs X ts t' := ⟨fun pins s σ H vs us Q I r hw => h.run pins s σ H vs us Q I r (w vs σ H Q hw)⟩
theorem mgs_nil : MGs X W [] gsN := by
  refine PGs.weak pgs_nil fun vs σ H Q ⟨μ, M, ρ, ds, r, e, q, a⟩ => ?_
  unfold gsN at a
  split at a
  · exact ⟨q.inv_nil, a μ H σ (Lift.refl ..) r e⟩
  · exact a.elim
theorem mgs_cons (h1 : MG X W t g) (h2 : MGs X W ts gs) (hs : (assignEach (t :: ts) X.env).map (·.2) = assign t X.env :: (assignEach ts X.env).map (·.2) := by rfl) : MGs X W (t :: ts) (gsC g gs) := by
  refine PGs.weak (pgs_cons h1 h2 hs) fun vs σ H Q ⟨μ, M, ρ, ds, r, e, q, a⟩ => ?_
  unfold gsC at a
  split at a
  · rename_i d ds'
    obtain ⟨v, vr, ev, q1, q2⟩ := q.inv_cons
    refine ⟨v, vr, ev, μ, M, ρ, d, r, e, q1, ?_⟩
    cases hg : g d ρ M with
    | go f ρ' M' =>
      rw [hg] at a
      cases f with
      | nx => exact fun μ' H' σ' l' r' e' => ⟨μ', M', ρ', ds', r', e', q2.lift l', AnsS.rebase l' a⟩
      | bk => exact a
      | ct => exact a
      | ret d => exact a
    | ex x ρ' M' => rw [hg] at a; exact a
    | no => rw [hg] at a; exact a
  · exact a.elim
theorem mg_tup {n k : Nat} (hc : X.calm = true) (h : MGs X W ts gs) (hn : (assignEach ts X.env).length = n := by rfl) (hst : (assignEach ts X.env).findIdx? (·.1) = none := by rfl) : MG X W (.Tuple ts k pos) (gTp n gs) := by
  refine ⟨fun pins s σ H v u Q I rv ⟨μ, M, ρ, d, r, e, q, a⟩ => ?_⟩
  unfold gTp at a
  split at a
  · split at a
    · rename_i ds hl
      obtain ⟨p, xs, ev, sq, dq⟩ := tup_dv q
      refine (pg_tup hc h hn hst).run pins s σ H v u Q I rv ⟨p, xs, ev, sq, by rw [dq.length]; exact hl, μ, M, ρ, ds, r, e, dq, a⟩
    · exact a.elim
  · exact a.elim
theorem mg_sub (ho : ME X W o fo) (hi : ME X W i fi)
    (ha : ∀ v, assign (.Subscript o i pos) X.env v = (do
      let ov ← holding [v] (eval o X.env)
      let iv ← holding [v, ov] (eval i X.env)
      standAt pos
      holding [v, ov, iv] (setItem ov iv v)
      release [v, ov, iv] []) := by intro _; rfl) : MG X W (.Subscript o i pos) (gSb fo fi) := by
  refine ⟨fun pins s σ H v u Q I rv ⟨μ, M, ρ, d, r, e, q, a⟩ => ?_⟩
  refine (pg_sub ho hi set_list ha).run pins s σ H v u Q I rv ?_
  refine ⟨μ, M, ρ, r, e, ?_⟩
  unfold gSb at a
  cases h1 : fo ρ M with
  | no => rw [h1] at a; exact a
  | ex x M1 => rw [h1] at a; exact fun μ' H' c dd l' r' x' => a μ' H' σ c dd l' r' (e.lift l') x'
  | ok o1 M1 =>
    rw [h1] at a
    refine fun μ1 H1 ov l1 r1 q1 => ⟨μ1, M1, ρ, r1, e.lift l1, ?_⟩
    have a := AnsS.rebase l1 a
    cases h2 : fi ρ M1 with
    | no => unfold SR.of at a; dsimp only at a; rw [h2] at a; exact a
    | ex x M2 => unfold SR.of at a; dsimp only at a; rw [h2] at a; exact fun μ' H' c dd l' r' x' => a μ' H' σ c dd l' r' ((e.lift l1).lift l') x'
    | ok i1 M2 =>
      unfold SR.of at a; dsimp only at a; rw [h2] at a
      refine fun μ2 H2 iv l2 r2 q2 => ?_
      have a := AnsS.rebase l2 a
      dsimp only at a
      split at a
      · rename_i M3 h3
        unfold setD at h3
        split at h3
        · rename_i n k _
          split at h3
          · rename_i xs hx
            split at h3
            · rename_i j hj
              cases h3
              obtain ⟨hn, ev⟩ := ref_dv (q1.lift l2)
              obtain ⟨ys, hy, dy⟩ := r2.obj n _ hx
              have p := put_lst r2 hx hy (dy.set (q.lift (l1.trans l2)) j)
              refine ⟨μ2 n, ys, k, j, ev, int_dv q2, hy, by rw [dy.length]; exact hj, ?_⟩
              exact a μ2 _ σ p.2 p.1 (((e.lift l1).lift l2).lift p.2)
            · cases h3
          · cases h3
        · cases h3
      · exact a.elim
/-- target = e, any target -/
theorem ms_asgT (he : ME X W e f) (hg : MG X W t g) (hs : swapsWithSole [t] e pos.line X.env = pure false := by rfl) (hw : swappedStores [t] e X.env = pure none := by rfl)
    (h1 : (assignEach [t] X.env).map (·.2) = [assign t X.env] := by rfl) : MS X W (.Assign [t] e pos) (fun ρ M => SR.of (f ρ M) ρ fun d M1 => match g d ρ M1 with
      | .go .nx ρ' M' => .go .nx ρ' M'
      | .ex e ρ' M' => .ex e ρ' M'
      | _ => .no) := by
  refine PS.weak (ps_asg he hg hs hw h1) fun D σ H h => ?_
  refine tM.mono (fun v H1 ⟨μ, M, ρ, d, r, e, q, a⟩ => ⟨μ, M, ρ, d, r, e, q, ?_⟩) (tSt.expr (rel := DV X.K) h)
  cases hg : g d ρ M with
  | go f ρ' M' =>
    rw [hg] at a
    cases f with
    | nx => exact a
    | bk => exact a.elim
    | ct => exact a.elim
    | ret d => exact a.elim
  | ex x ρ' M' => rw [hg] at a; exact a
  | no => rw [hg] at a; exact a
def sAsgT (f : FE) (g : FG) : FStm := fun ρ M => SR.of (f ρ M) ρ fun d M1 => match g d ρ M1 with
  | .go .nx ρ' M' => .go .nx ρ' M'
  | .ex e ρ' M' => .ex e ρ' M'
  | _ => .no
theorem ms_asgT' (he : ME X W e f) (hg : MG X W t g) (hs : swapsWithSole [t] e pos.line X.env = pure false := by rfl) (hw : swappedStores [t] e X.env = pure none := by rfl)
    (h1 : (assignEach [t] X.env).map (·.2) = [assign t X.env] := by rfl) : MS X W (.Assign [t] e pos) (sAsgT f g) := ms_asgT he hg hs hw h1
/-- a, b = x, y and a, b, c = x, y, z, stored from the right -/
def sPar (is : List Nat) (g : FA) : FStm := fun ρ M => SR.of (g ρ M) ρ fun ds M1 => if ds.length = is.length then .go .nx ((is.zip ds).foldl (fun ρ p => ρ.set p.1 (some p.2)) ρ) M1 else .no
theorem ms_par {i j : Nat} {x y : Str} {a b : Expr} {g : FA} {px py pt : Pos} {kt k2 pt2} (hc : X.calm = true) (hN : X.N.Nodup) (hi : X.N[i]? = some x) (hj : X.N[j]? = some y) (hij : i ≠ j)
    (hx : X.env.scope.names.lookup x = some .local) (hy : X.env.scope.names.lookup y = some .local) (ha : MA X W [a, b] g)
    (hw : swappedStores [.Tuple [.Name x px, .Name y py] kt pt] (.Tuple [a, b] k2 pt2) X.env = pure (some [x, y]))
    (hs : swapsWithSole [.Tuple [.Name x px, .Name y py] kt pt] (.Tuple [a, b] k2 pt2) pos.line X.env = pure false := by rfl) :
    MS X W (.Assign [.Tuple [.Name x px, .Name y py] kt pt] (.Tuple [a, b] k2 pt2) pos) (sPar [i, j] g) := by
  refine PS.weak (ps_par hc hN hi hj hij hx hy ha hw hs) fun D σ H h => ?_
  refine tM.mono (fun vs H1 ⟨μ, M, ρ, ds, r, e, q, a⟩ => ?_) (tSt.expr (rel := DVs X.K) h)
  split at a
  · rename_i hl
    match ds, hl, q, a with
    | [d1, d2], _, q, a =>
      obtain ⟨v1, r1, e1, q1, q2⟩ := q.inv_cons
      obtain ⟨v2, r2, e2, q3, q4⟩ := q2.inv_cons
      refine ⟨v1, v2, by rw [e1, e2, q4.inv_nil], a μ H1 _ (Lift.refl ..) r ((e.set q1 i).set q3 j)⟩
  · exact a.elim
theorem ms_par3 {i j l : Nat} {x y z : Str} {a b c : Expr} {g : FA} {px py pz pt : Pos} {kt k2 pt2} (hc : X.calm = true) (hN : X.N.Nodup) (hi : X.N[i]? = some x) (hj : X.N[j]? = some y) (hl : X.N[l]? = some z) (hij : i ≠ j) (hil : i ≠ l) (hjl : j ≠ l)
    (hx : X.env.scope.names.lookup x = some .local) (hy : X.env.scope.names.lookup y = some .local) (hz : X.env.scope.names.lookup z = some .local) (ha : MA X W [a, b, c] g)
    (hw : swappedStores [.Tuple [.Name x px, .Name y py, .Name z pz] kt pt] (.Tuple [a, b, c] k2 pt2) X.env = pure (some [x, y, z]))
    (hs : swapsWithSole [.Tuple [.Name x px, .Name y py, .Name z pz] kt pt] (.Tuple [a, b, c] k2 pt2) pos.line X.env = pure false := by rfl) :
    MS X W (.Assign [.Tuple [.Name x px, .Name y py, .Name z pz] kt pt] (.Tuple [a, b, c] k2 pt2) pos) (sPar [i, j, l] g) := by
  refine PS.weak (ps_par3 hc hN hi hj hl hij hil hjl hx hy hz ha hw hs) fun D σ H h => ?_
  refine tM.mono (fun vs H1 ⟨μ, M, ρ, ds, r, e, q, a⟩ => ?_) (tSt.expr (rel := DVs X.K) h)
  split at a
  · rename_i hl
    match ds, hl, q, a with
    | [d1, d2, d3], _, q, a =>
      obtain ⟨v1, r1, e1, q1, q2⟩ := q.inv_cons
      obtain ⟨v2, r2, e2, q3, q4⟩ := q2.inv_cons
      obtain ⟨v3, r3, e3, q5, q6⟩ := q4.inv_cons
      refine ⟨v1, v2, v3, by rw [e1, e2, e3, q6.inv_nil], a μ H1 _ (Lift.refl ..) r (((e.set q1 i).set q3 j).set q5 l)⟩
  · exact a.elim
/-! ### walks -/
theorem mi_it {tg : Expr} (hl : ME X W e f) : MI X W tg e (wIt f) := by
  refine ⟨fun pins s σ H R I h => ?_⟩
  refine thn (hl.run pins s σ H _ I (tM.seq (rel := DV X.K) h)) fun v s1 ⟨x, H1, I1, r1, μ, M, ρ, d, r, e, q, a⟩ => ?_
  cases d with
  | tup ds =>
    obtain ⟨p, xs, ev, sq, dq⟩ := tup_dv q
    subst ev
    cases r1
    obtain ⟨its, rv, ht, hz⟩ := I1.tuple sq
    refine wpAny_pyIter_tuple (show s1.heap.IsTuple p its.toArray from ht) ?_
    refine ⟨s1.heap.objs.size, [s1.heap.objs.size], _, _, H1, rfl, I1.kept (t' := s1.toks) fun b o e => Heap.get?_push_of_some _ e, turn_tuple p _, ⟨_, Heap.get?_push_size _ rfl, rfl, rfl⟩, fun b hb => ?_, a μ H1 _ (Lift.refl ..) r (wk_tup dq sq)⟩
    have e : b = s1.heap.objs.size := by simpa using hb
    subst e
    exact I1.fpOk (Nat.le_refl _) (I1.hok.fresh (Nat.le_refl _))
  | lst ds =>
    obtain ⟨p, xs, ev, sq, dq⟩ := lst_dv q
    subst ev
    cases r1
    obtain ⟨its, rv, ht, hz⟩ := I1.list sq.seq
    refine wpAny_pyIter_list ht.isList ?_
    refine ⟨s1.heap.objs.size, [s1.heap.objs.size], _, _, H1, rfl, I1.kept (t' := s1.toks) fun b o e => Heap.get?_push_of_some _ e, turn_list p _, ⟨_, Heap.get?_push_size _ rfl, rfl, rfl⟩, fun b hb => ?_, a μ H1 _ (Lift.refl ..) r (wk_lst dq sq)⟩
    have e : b = s1.heap.objs.size := by simpa using hb
    subst e
    exact I1.fpOk (Nat.le_refl _) (I1.hok.fresh (Nat.le_refl _))
  | ref n =>
    obtain ⟨hn, ev⟩ := ref_dv q
    subst ev
    cases r1
    dsimp only [wkOf] at a
    cases ho : M[n]? with
    | none => simp [hn] at ho
    | some o =>
      cases o with
      | lst ds =>
        rw [ho] at a
        obtain ⟨xs, hx, dx⟩ := r.obj n _ ho
        obtain ⟨its, rv, ht, hz⟩ := I1.list (SqL.of hx)
        refine wpAny_pyIter_list ht.isList ?_
        refine ⟨s1.heap.objs.size, [s1.heap.objs.size], _, _, H1, rfl, I1.kept (t' := s1.toks) fun b o e => Heap.get?_push_of_some _ e, turn_list (μ n) _, ⟨_, Heap.get?_push_size _ rfl, rfl, rfl⟩, fun b hb => ?_, a μ H1 _ (Lift.refl ..) r ⟨hn, rfl⟩⟩
        have e : b = s1.heap.objs.size := by simpa using hb
        subst e
        exact I1.fpOk (Nat.le_refl _) (I1.hok.fresh (Nat.le_refl _))
      | dic kvs => rw [ho] at a; exact a.elim
      | ins c fs => rw [ho] at a; exact a.elim
  | non => exact a.elim
  | bl b => exact a.elim
  | int i => exact a.elim
  | str x => exact a.elim
  | gl x => exact a.elim
  | ty x => exact a.elim
end
end Br
set_option Elab.async false
set_option linter.all false
set_option maxRecDepth 100000
set_option maxHeartbeats 4000000
namespace Br
open PySem PySem.Spec PyProof.Rows L2
def eAppend (fo : FE) (g : FA) : FE := fun ρ M => (fo ρ M).bind fun x M1 => match x with
  | .ref n => (match M1[n]? with
    | some (.lst _) => (g ρ M1).bind fun ds M2 => gAppend x ds M2
    | _ => .no)
  | _ => .no
def ePop (fo : FE) : FE := fun ρ M => (fo ρ M).bind fun x M1 => gPop x [] M1
def gMul' : F2 := fun a b M => match a, b with
    | .int i, .int j => if mulOk i j = true then .ok (.int (i * j)) M else .no
    | .tup xs, .int k => if xs ≠ [] ∧ 2 ≤ k ∧ k ≤ 1000 ∧ xs.length ≤ 1000 then .ok (.tup (List.replicate k.toNat xs).flatten) M else .no
    | _, _ => .no
section
variable {X : Cx} {W : WX} {e o a b : Expr} {es : List Expr} {fo f fa fb : FE} {g : FA} {apos cpos pos p : Pos} {tg : Expr}
theorem me_app (ho : ME X W o fo) (ha : MA X W (e :: es) g) (hbase : attributeBase o "append" X.env (eval o X.env) = eval o X.env := by rfl)
    (hfew : ((backTo cpos (starEach (e :: es) X.env)).all (fun x => !x.1) && (backToKw cpos (keywordEach [] X.env)).all (fun x => x.1.isSome) && decide ((e :: es).length + ([] : List Keyword).length + (if ([] : List Keyword).isEmpty then 0 else 1) < 30)) = true := by rfl)
    (hline : (apos.endLine == cpos.line) = true := by rfl) (hs : starEach (e :: es) X.env = (false, eval e X.env) :: starEach es X.env := by rfl) (hplain : (backTo cpos (starEach es X.env)).any (·.1) = false := by rfl) :
    ME X W (.Call (.Attribute o "append" apos) (e :: es) [] cpos) (eAppend fo g) := me_append ho ha hbase hfew hline hs hplain
theorem me_pop' (ho : ME X W o fo) (hbase : attributeBase o "pop" X.env (eval o X.env) = eval o X.env := by rfl) (hline : (apos.endLine == cpos.line) = true := by rfl) :
    ME X W (.Call (.Attribute o "pop" apos) [] [] cpos) (ePop fo) := me_pop ho hbase hline
theorem om_mul' : OpM X (binaryOp .Mult) gMul' := om_mul
def wRng1 (g : FA) : En → Mem → R Wk := fun ρ M => (g ρ M).bind fun ds M1 => match ds with
  | [.int j] => if -(2 ^ 62) ≤ j ∧ j < 2 ^ 62 then .ok (.items (rangeD 0 j.toNat)) M1 else .no
  | _ => .no
def wRng2 (g : FA) : En → Mem → R Wk := fun ρ M => (g ρ M).bind fun ds M1 => match ds with
  | [.int i, .int j] => if (-(2 ^ 62) ≤ i ∧ i < 2 ^ 62) ∧ -(2 ^ 62) ≤ j ∧ j < 2 ^ 62 then .ok (.items (rangeD i (j - i).toNat)) M1 else .no
  | _ => .no
theorem mi_range1 (hg : Gl X "range") (hm : X.mg "range" = none) (ha : MA X W [a] g) (hs : starEach [a] X.env = [(false, eval a X.env)] := by rfl) : MI X W tg (.Call (.Name "range" p) [a] [] pos) (wRng1 g) := by
  refine PI.weak (pi_range1 hg hm ha hs) fun σ H Q h => ?_
  refine tM.mono (fun vs H1 ⟨μ, M, ρ, ds, r, e, q, a⟩ => ?_) (tM.seq (rel := DVs X.K) h)
  split at a
  · rename_i j
    split at a
    · rename_i hj
      obtain ⟨v1, r1, e1, q1, q2⟩ := q.inv_cons
      refine ⟨j, by rw [e1, q2.inv_nil, int_dv q1], hj.1, hj.2, a μ H1 _ (Lift.refl ..) r (wk_range 0 j.toNat)⟩
    · exact a.elim
  · exact a.elim
theorem mi_range2 (hg : Gl X "range") (hm : X.mg "range" = none) (ha : MA X W [a, b] g) (hs : starEach [a, b] X.env = [(false, eval a X.env), (false, eval b X.env)] := by rfl) (hs2 : starEach [b] X.env = [(false, eval b X.env)] := by rfl) : MI X W tg (.Call (.Name "range" p) [a, b] [] pos) (wRng2 g) := by
  refine PI.weak (pi_range2 hg hm ha hs hs2) fun σ H Q h => ?_
  refine tM.mono (fun vs H1 ⟨μ, M, ρ, ds, r, e, q, a⟩ => ?_) (tM.seq (rel := DVs X.K) h)
  split at a
  · rename_i i j
    split at a
    · rename_i hj
      obtain ⟨v1, r1, e1, q1, q2⟩ := q.inv_cons
      obtain ⟨v2, r2, e2, q3, q4⟩ := q2.inv_cons
      refine ⟨i, j, by rw [e1, e2, q4.inv_nil, int_dv q1, int_dv q3], ⟨hj.1.1, hj.1.2, hj.2.1, hj.2.2⟩, a μ H1 _ (Lift.refl ..) r (wk_range i (j - i).toNat)⟩
    · exact a.elim
  · exact a.elim
end
/-! ### the law's end -/
/-- data of the script -/
def scriptD (ns : List Int) : D := .lst (ns.map .int)
theorem script_dv {K : PySem.W.Frag} {H : Hp} {a : Addr} {ns : List Int} (ho : Only H) (hs : SqL K H a (ns.map V.int)) (μ : Nat → Addr) (N : Nat) : DV K μ N H (scriptD ns) (.ref a) := by
  refine dv_lst (xs := ns.map V.int) ?_ (DVs.of_ints ns)
  rcases hs with (h | ⟨o, h⟩) | h
  · rcases ho a with z | ⟨o, xs, z⟩
    · rw [z] at h; cases h
    · rw [z] at h; cases h
  · exact .inl ⟨o, h⟩
  · exact .inr h

theorem hid_keeps {h : Heap} {H : Hp} {b : Addr} {o : Obj} (e : h.get? b = some o) (n : H b = none) : (hidT h H).get? b = some o := hidT_get e n
/-- the heaps that a law is begun with: nothing, or the locked script alone -/
def onlyAt (a : Addr) (o : Obj) (xs : List V) (b : Bool) : Hp := fun c => if b = true ∧ c = a then some (.frz o (.lst xs)) else none
theorem onlyAt_some {a c : Addr} {o : Obj} {xs : List V} {b : Bool} {u : HO} (h : onlyAt a o xs b c = some u) : b = true ∧ c = a ∧ u = .frz o (.lst xs) := by
  unfold onlyAt at h
  split at h
  · rename_i q; cases h; exact ⟨q.1, q.2, rfl⟩
  · cases h
theorem onlyAt_other {a c : Addr} {o : Obj} {xs : List V} {b : Bool} (h : b = true → c ≠ a) : onlyAt a o xs b c = none := by
  unfold onlyAt
  split
  · rename_i q; exact absurd q.2 (h q.1)
  · rfl
/-- the law's call, by what its def means -/
theorem lawM {P : Program} {w : World} {K : PySem.W.Frag} {mg mb : Str → Option Value} {k : Nat} {fa a : Addr} {fd : FuncData} {x : Str} {m : FL} {s : Shared} {us : List Value} {ns : List Int}
    (hK : K.In s.heap) (hm : s.heap.Ns mainGlobals mg) (hb1 : s.heap.Ns builtinsNs mb) (hb2 : ∀ y : Str, y ≠ "__name__" → mb y = bootBuiltins y) (hlim : s.heap.NoLimit) (hgen : s.gens = #[])
    (hobj : s.heap.get? a = some { cls := .type "list", data := .seq us.toArray }) (hi : IntsAre us ns) (hl : ns.length ≤ sizeLine) (hr : Room k callerA) (hgd : callerA.guards = some [])
    (F : ∀ base : Heap, K.In base → base.Ns mainGlobals mg → FnM P w K mg base k fa fd [x] m ∧ AB P w K mg base fd [x] 1 [] (fun ds _ => ds))
    (hlaw : ∃ M, m [scriptD ns] [] = .ok (.bl true) M) :
    codeAny (model P w) callerA (.call (.ref fa) ⟨[.ref a], []⟩) (fun r s' => r = .ok (.ret (.bool true)) ∧ OldK s.heap s'.heap ∧ s'.os = s.os ∧ AllBare s'.gens) s := by
  have rv := vals_ints hi
  let o : Obj := { cls := .type "list", data := .seq us.toArray }
  let H : Hp := onlyAt a o (ns.map V.int) (K.lookup a).isNone
  have hH : ∀ c u, H c = some u → K.lookup a = none ∧ c = a ∧ u = .frz o (.lst (ns.map V.int)) := fun c u h => by
    obtain ⟨q1, q2, q3⟩ := onlyAt_some h
    exact ⟨Option.isNone_iff_eq_none.mp q1, q2, q3⟩
  have hfree : ∀ {c : Addr} {ob : Obj} {es : Array DictEntry} {ep : Nat}, s.heap.get? c = some ob → ob.data = .dict es ep → H c = none := fun {c ob es ep} e d => by
    cases q : H c with
    | none => rfl
    | some u =>
      obtain ⟨_, q2, _⟩ := hH c u q
      rw [q2, hobj] at e
      cases e
      cases (show Data.seq us.toArray _ = Data.dict es ep from d)
  have hns : ∀ {c : Addr} {f : Str → Option Value}, s.heap.Ns c f → (hidT s.heap H).Ns c f := fun {c f} ⟨ob, es, ep, e, d, r⟩ => ⟨ob, es, ep, hid_keeps e (hfree e d), d, r⟩
  have hKin : K.In (hidT s.heap H) := fun c ob e => hid_keeps (hK c ob e) (by
    cases q : H c with
    | none => rfl
    | some u =>
      obtain ⟨q1, q2, _⟩ := hH c u q
      rw [q2, q1] at e
      cases e)
  have hok : HOk P w H s.heap := fun c u q => by
    obtain ⟨_, q2, q3⟩ := hH c u q
    subst q2; subst q3
    exact ⟨hobj, by rw [List.length_map]; exact hl, us, _, rv, hobj⟩
  have hmod : Mod K mg (hidT s.heap H) := ⟨hKin, hns hm, ⟨mb, hns hb1, hb2⟩, by obtain ⟨mc, h1, h2⟩ := hlim; exact ⟨mc, hns h1, h2⟩⟩
  have hnof : ∀ c, c ∉ frs ([] : List Env) := fun c z => by cases z
  have e0 : Env0 P w K mg (hidT s.heap H) callerA [] s H := ⟨rfl, hmod, fun c ob e => of_hidT e, Nat.le_of_eq (hidT_size _ _), trivial, fun c z => absurd z (hnof c), hok, .of_eq hgen⟩
  obtain ⟨F1, F2⟩ := F _ hKin (hns hm)
  have hsc : DV K (fun _ => 0) 0 H (scriptD ns) (.ref a) := by
    refine dv_lst (xs := ns.map V.int) ?_ (DVs.of_ints ns)
    cases q : K.lookup a with
    | none => exact .inl ⟨o, by show onlyAt a o (ns.map V.int) (K.lookup a).isNone a = _; unfold onlyAt; rw [q]; exact if_pos ⟨rfl, rfl⟩⟩
    | some ob =>
      have e := hK a ob q
      rw [hobj] at e
      cases e
      exact .inr ⟨_, us.toArray, _, q, rfl, rfl, rfl, by rw [List.size_toArray, hi.length]; exact hl, by simpa using rv⟩
  have hrel : Rel K (fun _ => 0) [] H := ⟨fun n ob e => by simp at e, fun i j hi => by simp at hi⟩
  have hbn := F2.bnd callerA [] s H (fun _ _ _ => False) [.ref a] [] [.ref a] [] (fun _ => 0) [] [scriptD ns] [] e0 rfl rfl (.cons rfl .nil) .nil hrel (DVs.cons hsc DVs.nil) DVs.nil
  obtain ⟨M', hm'⟩ := hlaw
  refine codeAny_mono (F1.run callerA [] s H ⟨[.ref a], []⟩ (fun v _ => v = .bl true) (fun _ _ _ => False) _ hr hgd e0 hbn fun vs H2 ⟨r2, l2, q2⟩ => ?_) fun r s' h => ?_
  · refine ⟨fun _ => 0, [], [scriptD ns], r2, q2, ?_⟩
    rw [hm']
    exact fun μ' H' v l r q => bl_dv q
  · cases r with
    | error e =>
      obtain ⟨_, _, _, _, _, _, _, _, _, _, _, _, z⟩ := h
      exact z.elim
    | ok fl =>
      cases fl with
      | next => exact False.elim h
      | brk => exact False.elim h
      | cont => exact False.elim h
      | ret u =>
        obtain ⟨v, H', hos, hbare, hun, hok', hrv, hv⟩ := h
        subst hv
        have hu : u = Value.bool true := hrv
        subst hu
        refine ⟨rfl, OldK.of_keep fun c ob e => ?_, hos, hbare⟩
        cases q : H c with
        | none => exact hun.keep c ob e q (hnof c) (by simp)
        | some u2 =>
          obtain ⟨_, q2, q3⟩ := hH c u2 q
          rw [q3] at q
          have z := hun.frzs c _ _ q
          have z1 := (hok c _ q).1
          have z2 := (hok' c _ z).1
          rw [e] at z1
          cases z1
          exact z2
/-- THE END of a law by its meaning: F gives the written part, the function object, its meaning over every base -/
theorem walkM {l : PySem.W.OpenLaw} {n k : Nat} {q : Program} {loose : List Str} {XP : (Str → Option Value) → Heap → Prop} {YP : World → Heap → Prop} {d : DefRec} {x : Str} {m : FL}
    (hn : l.most = some n) (hn2 : n ≤ sizeLine) (hdf : d.params.defaults = []) (hr : Room k callerA) (hgd : callerA.guards = some [])
    (F : ∀ (w : World) (mg : Str → Option Value) (fa : Addr) (h : Heap), YP w h → h.Ns mainGlobals mg → mg d.name = some (.ref fa) →
      ∃ (K : PySem.W.Frag) (fd : FuncData), K.In h ∧ ∀ base : Heap, K.In base → base.Ns mainGlobals mg → FnM l.prog w K mg base k fa fd [x] m ∧ AB l.prog w K mg base fd [x] 1 [] (fun ds _ => ds))
    (hlaw : ∀ ns : List Int, ns.length ≤ n → ∃ M, m [scriptD ns] [] = .ok (.bl true) M) :
    PySem.W.WalkO q loose XP YP l.row.toRowW d [] (fun f vs => PySem.call f vs) := by
  refine Att.attach_call hn hdf fun w s₀ s₁ mg mb fa o pm cd doc a vs ns G Y ho hd hcd hmg hobj hints hlen hg => ?_
  obtain ⟨K, fd, KX, hF⟩ := F w mg fa _ Y G.T.g hmg
  exact lawM KX G.T.g G.T.b G.T.builtins G.T.nolimit hg hobj hints (Nat.le_trans hlen hn2) hr hgd hF (hlaw ns hlen)
end Br
set_option Elab.async false
set_option linter.all false
set_option maxRecDepth 100000
set_option maxHeartbeats 4000000
namespace Br
open PySem PySem.Spec PyProof.Rows L2
def pk {α : Type} (l : List α) (i : Nat) : List α := l[i]?.toList
theorem vals_pk {vs : List V} {us : List Value} (r : Vals vs us) (i : Nat) : Vals (pk vs i) (pk us i) := by
  unfold pk
  cases e : vs[i]? with
  | none => rw [r.none_of e]; exact .nil
  | some v =>
    obtain ⟨u, hu, rv⟩ := r.get e
    rw [hu]
    exact .cons rv .nil
theorem dvs_pk {K : PySem.W.Frag} {μ : Nat → Addr} {N : Nat} {H : Hp} {ds : List D} {vs : List V} (q : DVs K μ N H ds vs) (i : Nat) : DVs K μ N H (pk ds i) (pk vs i) := by
  unfold pk
  cases e : ds[i]? with
  | none =>
    have h1 : ds.length ≤ i := List.getElem?_eq_none_iff.mp e
    have h2 : vs[i]? = none := List.getElem?_eq_none_iff.mpr (by rw [q.length]; exact h1)
    rw [h2]; exact DVs.nil
  | some d =>
    obtain ⟨v, hv, dv⟩ := q.get e
    rw [hv]
    exact DVs.cons dv DVs.nil
section
variable {P : Program} {w : World} {K : PySem.W.Frag} {mg : Str → Option Value} {base : Heap}
theorem AB.of_all {fd : FuncData} {ps : List Str} {n : Nat} (hb : Binds K fd ps []) (hn : n = ps.length) : AB P w K mg base fd ps n [] (fun ds _ => ds) := by
  have h := AB.of_binds (P := P) (w := w) (mg := mg) (base := base) (n := n) hb .nil Dfl.nil hn
  refine ⟨fun A outer s H E us ws vs zs μ M ds es e0 l1 l2 rv rz r q qz => ?_⟩
  have z := h.bnd A outer s H E us ws vs zs μ M ds es e0 l1 l2 rv rz r q qz
  rw [List.append_nil] at z
  exact z
/-- def f(a, *v), called by keywords alone -/
theorem AB.of_star0K {fd : FuncData} {ps : List Str} {pv : Str} (hz : ps.length ≤ 1000)
    (hb : ∀ ws : List Value, ws.length = ps.length → bindArgs fd ⟨[], ps.zip ws⟩ = (newTuple [] >>= fun t => pure (ps.zip ws ++ [(pv, t)]))) : AB P w K mg base fd (ps ++ [pv]) 0 ps (fun _ es => es ++ [.tup []]) := by
  refine ⟨fun A outer s H E us ws vs zs μ M ds es e0 l1 l2 rv rz r q qz A' Ex Q k => ?_⟩
  have hu : us = [] := List.eq_nil_of_length_eq_zero l1
  subst hu
  rw [hb ws l2]
  refine wpAny_bind (wpAny_newObj_type ?_ (Nat.zero_le _))
  refine wpAny_pure ?_
  have hfr : H s.heap.objs.size = Option.none := e0.hok.fresh (Nat.le_refl _)
  have new : ObjOk P w (upd H s.heap.objs.size (.tup [])) (s.heap.push { cls := .type "tuple", data := .seq ([] : List Value).toArray }) s.heap.objs.size (.tup []) := ⟨Nat.zero_le _, [], .nil, IsTup.new s.heap _⟩
  have e1 := StX.env0_laid e0 new
  have un : Un (frs outer) [] H (upd H s.heap.objs.size (.tup [])) s.heap (s.heap.push { cls := .type "tuple", data := .seq ([] : List Value).toArray }) := StX.un_laid hfr
  have hz : (ps ++ [pv]).zip (ws ++ [Value.ref s.heap.objs.size]) = ps.zip ws ++ [(pv, Value.ref s.heap.objs.size)] := by
    rw [List.zip_append l2.symm]; rfl
  rw [← hz]
  refine k { s with heap := s.heap.push { cls := .type "tuple", data := .seq ([] : List Value).toArray } } _ (zs ++ [V.ref s.heap.objs.size]) _ e1 un rfl (fun e s' z => ?_) (rz.append (.cons rfl .nil)) ?_ ⟨r.fresh hfr, Lift.fresh hfr, ?_⟩
  · exact StX.cxUp outer s H { s with heap := s.heap.push { cls := .type "tuple", data := .seq ([] : List Value).toArray } } (upd H s.heap.objs.size (.tup [])) E e s' un (fun b o q => Heap.get?_push_of_some _ q) rfl z
  · rw [List.length_append, List.length_append, rz.length, l2]; rfl
  · refine (qz.lift (Lift.fresh hfr)).append (DVs.cons ?_ DVs.nil)
    exact dv_tup (SqT.of upd_same) DVs.nil
end
theorem hu64 {A : Around} {k : Nat} (hr : Room k A) : A.units + 64 < cLine := hr.units
theorem hu128 {A : Around} {k : Nat} (hr : Room k A) : A.units + 128 < cLine := by have := hr.un; omega
end Br
set_option Elab.async false
set_option linter.all false
set_option maxRecDepth 100000
set_option maxHeartbeats 4000000
namespace Br
open PySem PySem.Spec PyProof.Rows L2
/-- a comparison as a test -/
def tC (f : FE) : FT := fun ρ M => (f ρ M).bind fun x M1 => match x with
  | .bl b => .ok b M1
  | _ => .no
section
variable {X : Cx} {W : WX} {a b : Expr} {fa fb : FE} {pos : Pos}
theorem R.bind_assoc {α β γ : Type} (r : R α) (f : α → Mem → R β) (g : β → Mem → R γ) : (r.bind f).bind g = r.bind fun a M => (f a M).bind g := by cases r <;> rfl
theorem mt_cmp {op : CmpOp} {g : F2} (ho : OpM X (compareOp op) g) (ha : ME X W a fa) (hb : ME X W b fb) (hm : behindInMarks op b = false) : MT X W (.Compare a [op] [b] pos) (tC (e2 g fa fb)) := by
  refine ⟨fun pins s σ H Q I h => ?_⟩
  refine (pt_cmpR (ho (fun c d H' => W c d σ H')) ha hb hm).run pins s σ H Q I ?_
  have e0 : tC (e2 g fa fb) = fun ρ M => (fa ρ M).bind fun x M1 => (fb ρ M1).bind fun y M2 => (g x y M2).bind fun z M3 => match z with
      | .bl b => .ok b M3
      | _ => .no := by
    funext ρ M
    unfold tC e2
    rw [R.bind_assoc]
    congr 1
    funext x M1
    rw [R.bind_assoc]
  rw [e0] at h
  refine tM.mono (fun v H1 ⟨μ, M, ρ, d, r, e, q, a1⟩ => ?_) (tM.seq (rel := DV X.K) h)
  have a2 := Ans.bind (rel := DV X.K) a1
  refine ⟨μ, M, ρ, r, e, a2.mono (fun u H2 ⟨μ1, M1, d1, l, r1, q1, a3⟩ => ⟨μ1, M1, d, d1, r1, q.lift l, q1, ?_⟩) fun _ _ _ z => z⟩
  have a4 := Ans.bind (rel := DV X.K) a3
  refine a4.mono (fun z H3 ⟨μ3, M3, d3, l3, r3, q3, a5⟩ => ?_) fun _ _ _ z => z
  cases d3 with
  | bl k => exact ⟨k, by unfold DV at q3; exact q3, a5 μ3 H3 k (Lift.refl ..) r3 rfl⟩
  | _ => exact a5.elim
end
section
variable {P : Program} {w : World} {K : PySem.W.Frag} {mg : Str → Option Value} {base : Heap}
/-- def f(a, *v), called by n values -/
theorem AB.of_starN {fd : FuncData} {ps : List Str} {pv : Str} (n : Nat) (hn : ps.length ≤ n) (hz : n ≤ 1000)
    (hb : ∀ us rest : List Value, us.length = ps.length → rest.length = n - ps.length → bindArgs fd ⟨us ++ rest, []⟩ = (newTuple rest >>= fun t => pure (ps.zip us ++ [(pv, t)]))) : AB P w K mg base fd (ps ++ [pv]) n [] (fun ds _ => ds.take ps.length ++ [.tup (ds.drop ps.length)]) := by
  refine ⟨fun A outer s H E us ws vs zs μ M ds es e0 l1 l2 rv rz r q qz A' Ex Q k => ?_⟩
  have hu : us = us.take ps.length ++ us.drop ps.length := (List.take_append_drop ..).symm
  have hlu : (us.take ps.length).length = ps.length := by rw [List.length_take]; omega
  show wpAny _ _ (bindArgs fd ⟨us, []⟩) _ _ _
  rw [hu, hb _ _ hlu (by rw [List.length_drop, l1])]
  have hld : (us.drop ps.length).length ≤ sizeLine := by
    rw [List.length_drop, l1]
    have : (1000 : Nat) ≤ sizeLine := by decide
    omega
  refine wpAny_bind (wpAny_newObj_type ?_ hld)
  refine wpAny_pure ?_
  have hfr : H s.heap.objs.size = Option.none := e0.hok.fresh (Nat.le_refl _)
  have new : ObjOk P w (upd H s.heap.objs.size (.tup (vs.drop ps.length))) (s.heap.push { cls := .type "tuple", data := .seq (us.drop ps.length).toArray }) s.heap.objs.size (.tup (vs.drop ps.length)) := by
    refine ⟨by rw [List.length_drop, rv.length, ← List.length_drop]; exact hld, us.drop ps.length, rv.drop _, ?_⟩
    exact IsTup.new s.heap _
  have e1 := StX.env0_laid e0 new
  have un : Un (frs outer) [] H (upd H s.heap.objs.size (.tup (vs.drop ps.length))) s.heap (s.heap.push { cls := .type "tuple", data := .seq (us.drop ps.length).toArray }) := StX.un_laid hfr
  have hz : (ps ++ [pv]).zip (us.take ps.length ++ [Value.ref s.heap.objs.size]) = ps.zip (us.take ps.length) ++ [(pv, Value.ref s.heap.objs.size)] := by
    rw [List.zip_append hlu.symm]; rfl
  rw [← hz]
  refine k { s with heap := s.heap.push { cls := .type "tuple", data := .seq (us.drop ps.length).toArray } } _ (vs.take ps.length ++ [V.ref s.heap.objs.size]) _ e1 un rfl (fun e s' z => ?_) ((rv.take _).append (.cons rfl .nil)) ?_ ⟨r.fresh hfr, Lift.fresh hfr, ?_⟩
  · exact StX.cxUp outer s H { s with heap := s.heap.push { cls := .type "tuple", data := .seq (us.drop ps.length).toArray } } (upd H s.heap.objs.size (.tup (vs.drop ps.length))) E e s' un (fun b o q => Heap.get?_push_of_some _ q) rfl z
  · rw [List.length_append, List.length_append, List.length_take, rv.length, l1]
    simp only [List.length_singleton]; omega
  · refine ((q.take _).lift (Lift.fresh hfr)).append (DVs.cons ?_ DVs.nil)
    unfold DV
    exact ⟨_, _, rfl, SqT.of upd_same, (q.drop _).lift (Lift.fresh hfr)⟩
end
end Br
set_option Elab.async false
set_option linter.all false
set_option maxRecDepth 100000
set_option maxHeartbeats 4000000
namespace Br
open PySem PySem.Spec PyProof.Rows
/-! ### plain lemmas over the functions -/
theorem sFor_inv {gg : FG} {b : FStm} (I : Nat → En → Mem → Prop) : ∀ (l : List D) (i : Nat) (ρ : En) (M : Mem), I i ρ M →
    (∀ x i ρ M, x ∈ l → I i ρ M → ∃ ρ1 M1 ρ2 M2, gg x ρ M = .go .nx ρ1 M1 ∧ b ρ1 M1 = .go .nx ρ2 M2 ∧ I (i + 1) ρ2 M2) → ∃ ρ' M', sFor gg b l ρ M = .go .nx ρ' M' ∧ I (i + l.length) ρ' M'
  | [], i, ρ, M, h, _ => ⟨ρ, M, rfl, h⟩
  | x :: l, i, ρ, M, h, hs => by
    obtain ⟨ρ1, M1, ρ2, M2, e1, e2, h2⟩ := hs x i ρ M (List.mem_cons_self ..) h
    obtain ⟨ρ', M', e3, h3⟩ := sFor_inv I l (i + 1) ρ2 M2 h2 fun x i ρ M hx => hs x i ρ M (List.mem_cons_of_mem _ hx)
    refine ⟨ρ', M', ?_, by rw [List.length_cons]; have : i + (l.length + 1) = i + 1 + l.length := by omega
                           rw [this]; exact h3⟩
    unfold sFor turn
    rw [e1]; dsimp only; rw [e2]; exact e3
/-- the same, the item and its place known -/
theorem sFor_at {gg : FG} {b : FStm} (I : Nat → En → Mem → Prop) (xs : List D) : ∀ (l : List D) (i : Nat) (ρ : En) (M : Mem), l = xs.drop i → I i ρ M →
    (∀ x i ρ M, xs[i]? = some x → I i ρ M → ∃ ρ1 M1 ρ2 M2, gg x ρ M = .go .nx ρ1 M1 ∧ b ρ1 M1 = .go .nx ρ2 M2 ∧ I (i + 1) ρ2 M2) → ∃ ρ' M', sFor gg b l ρ M = .go .nx ρ' M' ∧ I (i + l.length) ρ' M'
  | [], i, ρ, M, _, h, _ => ⟨ρ, M, rfl, h⟩
  | x :: l, i, ρ, M, hl, h, hs => by
    have hx : xs[i]? = some x := by
      have : (xs.drop i)[0]? = some x := by rw [← hl]; rfl
      simpa using this
    have hl2 : l = xs.drop (i + 1) := by
      have : (x :: l).drop 1 = (xs.drop i).drop 1 := by rw [hl]
      simpa [List.drop_drop, Nat.add_comm] using this
    obtain ⟨ρ1, M1, ρ2, M2, e1, e2, h2⟩ := hs x i ρ M hx h
    obtain ⟨ρ', M', e3, h3⟩ := sFor_at I xs l (i + 1) ρ2 M2 hl2 h2 hs
    refine ⟨ρ', M', ?_, by rw [List.length_cons]; have : i + (l.length + 1) = i + 1 + l.length := by omega
                           rw [this]; exact h3⟩
    unfold sFor turn
    rw [e1]; dsimp only; rw [e2]; exact e3
theorem mulOk_l {i j : Int} (h1 : -(2 ^ 64) < i) (h2 : i < 2 ^ 64) : mulOk i j = true := by unfold mulOk; exact decide_eq_true (.inl ⟨h1, h2⟩)
theorem mulOk_r {i j : Int} (h1 : -(2 ^ 64) < j) (h2 : j < 2 ^ 64) : mulOk i j = true := by unfold mulOk; exact decide_eq_true (.inr (.inl ⟨h1, h2⟩))
mutual
theorem toPyR_mono (rs : Nat → Option PyData) : ∀ (d : D) (p : PyData), toPyR (fun _ => none) d = some p → toPyR rs d = some p
  | .non, p, h => by unfold toPyR at h ⊢; exact h
  | .bl b, p, h => by unfold toPyR at h ⊢; exact h
  | .int b, p, h => by unfold toPyR at h ⊢; exact h
  | .str b, p, h => by unfold toPyR at h ⊢; exact h
  | .gl b, p, h => by unfold toPyR at h; cases h
  | .ty b, p, h => by unfold toPyR at h; cases h
  | .ref b, p, h => by unfold toPyR at h; cases h
  | .tup xs, p, h => by
    unfold toPyR at h ⊢
    cases e : toPysR (fun _ => none) xs with
    | none => rw [e] at h; cases h
    | some ps => rw [e] at h; rw [toPysR_mono rs xs ps e]; exact h
  | .lst xs, p, h => by
    unfold toPyR at h ⊢
    cases e : toPysR (fun _ => none) xs with
    | none => rw [e] at h; cases h
    | some ps => rw [e] at h; rw [toPysR_mono rs xs ps e]; exact h
theorem toPysR_mono (rs : Nat → Option PyData) : ∀ (d : List D) (p : List PyData), toPysR (fun _ => none) d = some p → toPysR rs d = some p
  | [], p, h => by unfold toPysR at h ⊢; exact h
  | x :: xs, p, h => by
    unfold toPysR at h ⊢
    cases e : toPyR (fun _ => none) x with
    | none => rw [e] at h; cases h
    | some q =>
      rw [e] at h; rw [toPyR_mono rs x q e]
      cases e2 : toPysR (fun _ => none) xs with
      | none => simp [e2] at h
      | some ps => rw [toPysR_mono rs xs ps e2]; simpa [e2] using h
end
/-- data that repr shows -/
def okp (d : D) : Bool := match toPyR (fun _ => none) d with
  | some p => p.layable0 && p.intsShort 13 && p.showable
  | none => false
theorem gRepr_ok {d : D} (h : okp d = true) (M : Mem) : ∃ z, gRepr [d] M = .ok (.str z) M := by
  unfold okp at h
  cases e : toPyR (fun _ => none) d with
  | none => rw [e] at h; cases h
  | some p =>
    rw [e] at h
    simp only [Bool.and_eq_true] at h
    obtain ⟨⟨h1, h2⟩, h3⟩ := h
    have e2 : toPy M d = some p := toPyR_mono _ _ _ e
    have h4 := PyData.hasDict_of_layable h1
    have h5 := shown_le13 h1 h2
    have h6 : p.depth ≤ 64 := by
      have hl' : (p.canLay0 && decide (p.depth ≤ 64) && decide (p.weight ≤ 2 ^ 20)) = true := h1
      simp only [Bool.and_eq_true, decide_eq_true_eq] at hl'
      exact hl'.1.2
    refine ⟨p.shown, ?_⟩
    unfold gRepr
    dsimp only
    rw [e2]
    dsimp only
    rw [if_pos]
    simp only [h3, h4, Bool.not_false, Bool.and_self, Bool.true_and, Bool.and_eq_true, decide_eq_true_eq]
    exact ⟨h6, Nat.le_trans h5 (by decide)⟩
end Br
set_option Elab.async false
set_option linter.all false
set_option maxRecDepth 100000
set_option maxHeartbeats 4000000
namespace LW
open PySem PySem.Spec PyProof.Rows L2 Br
/-- lead -/
def b_lead : FStm := (sRet (eL gTup (aC (eC (D.str "lead")) (aC (eV 0) aN))))
def m_lead : FL := run b_lead 1
/-- rename -/
def b_rename : FStm := (sRet (eL gTup (aC (eC (D.str "rename")) (aC (eV 0) (aC (eV 1) aN)))))
def m_rename : FL := run b_rename 2
/-- swallow -/
def b_swallow : FStm := (sRet (eL gTup (aC (eC (D.str "swallow")) (aC (eV 0) (aC (eV 1) aN)))))
def m_swallow : FL := run b_swallow 2
/-- retry -/
def b_retry : FStm := (sRet (eL gTup (aC (eC (D.str "retry")) (aC (eV 0) (aC (eV 1) aN)))))
def m_retry : FL := run b_retry 2
/-- breaker -/
def b_breaker : FStm := (sRet (eL gTup (aC (eC (D.str "breaker")) (aC (eV 0) (aC (eV 1) (aC (eV 2) aN))))))
def m_breaker : FL := run b_breaker 3
/-- guard -/
def b_guard : FStm := (sRet (eL gTup (aC (eC (D.str "guard")) (aC (eV 0) aN))))
def m_guard : FL := run b_guard 1
/-- depth -/
def b_depth : FStm := (sRet (eL gTup (aC (eC (D.str "depth")) (aC (eV 0) (aC (eV 1) aN)))))
def m_depth : FL := run b_depth 2
/-- limit -/
def b_limit : FStm := (sRet (eL gTup (aC (eC (D.str "limit")) (aC (eV 0) (aC (eV 1) aN)))))
def m_limit : FL := run b_limit 2
/-- stale -/
def b_stale : FStm := (sRet (eL gTup (aC (eC (D.str "stale")) (aC (eV 0) aN))))
def m_stale : FL := run b_stale 1
/-- once -/
def b_once : FStm := (sRet (eL gTup (aC (eC (D.str "once")) aN)))
def m_once : FL := run b_once 0
/-- cache -/
def b_cache : FStm := (sRet (eL gTup (aC (eC (D.str "cache")) aN)))
def m_cache : FL := run b_cache 0
/-- _law_take -/
def b__law_take : FStm := (sSeq (sIf (tC (e2 gGt (e2 gIx (eV 0) (eC (D.int 0))) (eC (D.int 0)))) (sSeq (sAsg (e2 gMod (e2 gIx (eV 0) (eC (D.int 0))) (eV 1)) (gN 3))
    (sSeq (sAsgT (e2 gFdiv (e2 gIx (eV 0) (eC (D.int 0))) (eV 1)) (gSb (eV 0) (eC (D.int 0))))
    (sRet (eV 3)))) sNx)
    (sSeq (sAsgT (e2 gAdd (e2 gIx (eV 0) (eC (D.int 2))) (eC (D.int 1))) (gSb (eV 0) (eC (D.int 2))))
    (sSeq (sAsg (e2 gMod (e2 gPow (e2 gAdd (e2 gIx (eV 0) (eC (D.int 1))) (e2 gMul' (eC (D.int 1000033)) (e2 gIx (eV 0) (eC (D.int 2))))) (eC (D.int 3))) (eC (D.int 2305843009213693921))) (gN 2))
    (sSeq (sAsg (e2 gMod (e2 gPow (e2 gAdd (eV 2) (e2 gMul' (eC (D.int 15485917)) (e2 gIx (eV 0) (eC (D.int 2))))) (eC (D.int 2))) (eC (D.int 2305843009213693951))) (gN 2))
    (sRet (e2 gMod (e2 gFdiv (eV 2) (eC (D.int 2048))) (eV 1)))))))
def m__law_take : FL := run b__law_take 4
/-- _law_worth -/
def b__law_worth : FStm := (sRet (e2 gIx (eL gLst (aC (eC (D.int 0)) (aC (eC (D.int 1)) (aC (eC (D.int 2)) (aC (eC (D.int 3)) (aC (e1 gNeg (eC (D.int 1))) (aC (eC (D.bl true)) (aC (eC D.non) (aC (eC (D.str "x")) (aC (eL gTup (aC (eC (D.int 0)) aN)) (aC (eL gLst (aC (eC (D.int 1)) aN)) aN))))))))))) (eL (gCall 2 (fun ds _ => ds) m__law_take) (aC (eV 0) (aC (eC (D.int 10)) aN)))))
def m__law_worth : FL := run b__law_worth 1
/-- _law_bag -/
def b__law_bag : FStm := (sSeq (sAsg (eIf (tC (e2 gLt (eV 1) (eL gLen (aC (eV 0) aN)))) (e2 gIx (eV 0) (eV 1)) (eC (D.int 0))) (gN 2))
    (sSeq (sAsg (eIf (tC (e2 gGe (eL gAbs (aC (eV 2) aN)) (e2 gPow (eC (D.int 10)) (eC (D.int 18))))) (eL gAbs (aC (eV 2) aN)) (eC (D.int 0))) (gN 3))
    (sRet (eL gNew (aC (eV 3) (aC (e2 gMod (e2 gMul' (e2 gAdd (e2 gAdd (e2 gMod (eV 2) (eC (D.int 2305843009213693951))) (e2 gMul' (eC (D.int 8221)) (eV 1))) (eC (D.int 7))) (eC (D.int 5103497))) (eC (D.int 2305843009213693951))) (aC (eC (D.int 0)) aN)))))))
def m__law_bag : FL := run b__law_bag 4
/-- law -/
def l0_law : FStm := (sSeq (sAsg (e2 gCatV (eV 7) (eL gLst (aC (eL (gCall 2 (fun ds _ => ds) m_rename) (aC (eV 4) (aC (eV 5) aN))) (aC (eK 0 2 (fun ds es => pk es 1 ++ (pk es 0 ++ ([]))) m_rename aN (aC (eV 5) (aC (eV 4) aN))) aN)))) (gN 7))
    (sSeq (sAsg (e2 gCatV (eV 8) (eL gLst (aC (eL gTup (aC (eC (D.str "rename")) (aC (eV 4) (aC (eV 5) aN)))) (aC (eL gTup (aC (eC (D.str "rename")) (aC (eV 4) (aC (eV 5) aN)))) aN)))) (gN 8))
    (sSeq (sAsg (e2 gCatV (eV 7) (eL gLst (aC (eL (gCall 1 (fun ds _ => ds.take 0 ++ [D.tup (ds.drop 0)]) m_lead) (aC (eV 4) aN)) (aC (eL (gCall 2 (fun ds _ => ds.take 0 ++ [D.tup (ds.drop 0)]) m_lead) (aC (eV 4) (aC (eV 5) aN))) (aC (eL (gCall 0 (fun ds _ => ds.take 0 ++ [D.tup (ds.drop 0)]) m_lead) aN) aN))))) (gN 7))
    (sSeq (sAsg (e2 gCatV (eV 8) (eL gLst (aC (eL gTup (aC (eC (D.str "lead")) (aC (eL gTup (aC (eV 4) aN)) aN))) (aC (eL gTup (aC (eC (D.str "lead")) (aC (eL gTup (aC (eV 4) (aC (eV 5) aN))) aN))) (aC (eL gTup (aC (eC (D.str "lead")) (aC (eL gTup aN) aN))) aN))))) (gN 8))
    (sIf (tC (e2 gNe (eL gRepr (aC (eV 7) aN)) (eL gRepr (aC (eV 8) aN)))) (sRet (eC (D.bl false))) sNx)))))
def l1_law : FStm := (sSeq (sAsg (e2 gCatV (eV 7) (eL gLst (aC (eL (gCall 2 (fun ds _ => ds.take 1 ++ [D.tup (ds.drop 1)]) m_retry) (aC (eV 4) (aC (eV 5) aN))) (aC (eL (gCall 3 (fun ds _ => ds.take 1 ++ [D.tup (ds.drop 1)]) m_retry) (aC (eV 4) (aC (eV 5) (aC (eV 6) aN)))) (aC (eL (gCall 1 (fun ds _ => ds.take 1 ++ [D.tup (ds.drop 1)]) m_retry) (aC (eV 4) aN)) (aC (eK 0 1 (fun _ es => es ++ [D.tup []]) m_retry aN (aC (eV 4) aN)) aN)))))) (gN 7))
    (sSeq (sAsg (e2 gCatV (eV 8) (eL gLst (aC (eL gTup (aC (eC (D.str "retry")) (aC (eV 4) (aC (eL gTup (aC (eV 5) aN)) aN)))) (aC (eL gTup (aC (eC (D.str "retry")) (aC (eV 4) (aC (eL gTup (aC (eV 5) (aC (eV 6) aN))) aN)))) (aC (eL gTup (aC (eC (D.str "retry")) (aC (eV 4) (aC (eL gTup aN) aN)))) (aC (eL gTup (aC (eC (D.str "retry")) (aC (eV 4) (aC (eL gTup aN) aN)))) aN)))))) (gN 8))
    (sSeq (sAsg (e2 gCatV (eV 7) (eL gLst (aC (eL (gCall 2 (fun ds _ => ds.take 1 ++ [D.tup (ds.drop 1)]) m_swallow) (aC (eV 4) (aC (eV 5) aN))) (aC (eL (gCall 3 (fun ds _ => ds.take 1 ++ [D.tup (ds.drop 1)]) m_swallow) (aC (eV 4) (aC (eV 5) (aC (eV 6) aN)))) (aC (eK 0 1 (fun _ es => es ++ [D.tup []]) m_swallow aN (aC (eV 4) aN)) aN))))) (gN 7))
    (sSeq (sAsg (e2 gCatV (eV 8) (eL gLst (aC (eL gTup (aC (eC (D.str "swallow")) (aC (eV 4) (aC (eL gTup (aC (eV 5) aN)) aN)))) (aC (eL gTup (aC (eC (D.str "swallow")) (aC (eV 4) (aC (eL gTup (aC (eV 5) (aC (eV 6) aN))) aN)))) (aC (eL gTup (aC (eC (D.str "swallow")) (aC (eV 4) (aC (eL gTup aN) aN)))) aN))))) (gN 8))
    l0_law))))
def l2_law : FStm := (sSeq (sAsg (e2 gCatN (eV 7) (eL gLst (aC (eL (gCall 2 (fun ds _ => ds ++ [D.int 0]) m_breaker) (aC (eV 4) (aC (eV 5) aN))) (aC (eK 2 1 (fun ds es => pk ds 0 ++ (pk ds 1 ++ (pk es 0 ++ ([])))) m_breaker (aC (eV 4) (aC (eV 5) aN)) (aC (eV 6) aN)) aN)))) (gN 7))
    (sSeq (sAsg (e2 gCatN (eV 8) (eL gLst (aC (eL gTup (aC (eC (D.str "breaker")) (aC (eV 4) (aC (eV 5) (aC (eC (D.int 0)) aN))))) (aC (eL gTup (aC (eC (D.str "breaker")) (aC (eV 4) (aC (eV 5) (aC (eV 6) aN))))) aN)))) (gN 8))
    (sSeq (sDrop (eAppend (eV 7) (aC (eK 0 3 (fun ds es => pk es 2 ++ (pk es 0 ++ (pk es 1 ++ ([])))) m_breaker aN (aC (eV 5) (aC (eV 6) (aC (eV 4) aN)))) aN)))
    (sSeq (sDrop (eAppend (eV 8) (aC (eL gTup (aC (eC (D.str "breaker")) (aC (eV 4) (aC (eV 5) (aC (eV 6) aN))))) aN)))
    l1_law))))
def l3_law : FStm := (sSeq (sPar [4, 5, 6] (aC (eL (gCall 1 (fun ds _ => ds) m__law_worth) (aC (eV 2) aN)) (aC (eL (gCall 1 (fun ds _ => ds) m__law_worth) (aC (eV 2) aN)) (aC (eL (gCall 1 (fun ds _ => ds) m__law_worth) (aC (eV 2) aN)) aN))))
    (sSeq (sAsg (eL gLst (aC (eL (gCall 0 (fun ds _ => ds) m_cache) aN) (aC (eL (gCall 0 (fun ds _ => ds) m_once) aN) (aC (eL (gCall 1 (fun ds _ => ds.take 0 ++ [D.tup (ds.drop 0)]) m_stale) (aC (eV 4) aN)) (aC (eL (gCall 2 (fun ds _ => ds.take 0 ++ [D.tup (ds.drop 0)]) m_stale) (aC (eV 4) (aC (eV 5) aN))) (aC (eL (gCall 0 (fun ds _ => ds.take 0 ++ [D.tup (ds.drop 0)]) m_stale) aN) aN)))))) (gN 7))
    (sSeq (sAsg (eL gLst (aC (eL gTup (aC (eC (D.str "cache")) aN)) (aC (eL gTup (aC (eC (D.str "once")) aN)) (aC (eL gTup (aC (eC (D.str "stale")) (aC (eL gTup (aC (eV 4) aN)) aN))) (aC (eL gTup (aC (eC (D.str "stale")) (aC (eL gTup (aC (eV 4) (aC (eV 5) aN))) aN))) (aC (eL gTup (aC (eC (D.str "stale")) (aC (eL gTup aN) aN))) aN)))))) (gN 8))
    (sSeq (sAsg (e2 gCatV (eV 7) (eL gLst (aC (eL (gCall 1 (fun ds _ => ds ++ [D.int 0]) m_limit) (aC (eV 4) aN)) (aC (eK 1 1 (fun ds es => pk ds 0 ++ (pk es 0 ++ ([]))) m_limit (aC (eV 4) aN) (aC (eV 5) aN)) (aC (eK 0 2 (fun ds es => pk es 0 ++ (pk es 1 ++ ([]))) m_limit aN (aC (eV 4) (aC (eV 5) aN))) aN))))) (gN 7))
    (sSeq (sAsg (e2 gCatV (eV 8) (eL gLst (aC (eL gTup (aC (eC (D.str "limit")) (aC (eV 4) (aC (eC (D.int 0)) aN)))) (aC (eL gTup (aC (eC (D.str "limit")) (aC (eV 4) (aC (eV 5) aN)))) (aC (eL gTup (aC (eC (D.str "limit")) (aC (eV 4) (aC (eV 5) aN)))) aN))))) (gN 8))
    (sSeq (sAsg (e2 gCatV (eV 7) (eL gLst (aC (eL (gCall 1 (fun ds _ => ds ++ [D.int 0]) m_depth) (aC (eV 4) aN)) (aC (eK 0 2 (fun ds es => pk es 1 ++ (pk es 0 ++ ([]))) m_depth aN (aC (eV 5) (aC (eV 4) aN))) (aC (eL (gCall 0 (fun ds _ => ds ++ [D.int 0]) m_guard) aN) (aC (eK 0 1 (fun ds es => pk es 0 ++ ([])) m_guard aN (aC (eV 4) aN)) aN)))))) (gN 7))
    (sSeq (sAsg (e2 gCatV (eV 8) (eL gLst (aC (eL gTup (aC (eC (D.str "depth")) (aC (eV 4) (aC (eC (D.int 0)) aN)))) (aC (eL gTup (aC (eC (D.str "depth")) (aC (eV 4) (aC (eV 5) aN)))) (aC (eL gTup (aC (eC (D.str "guard")) (aC (eC (D.int 0)) aN))) (aC (eL gTup (aC (eC (D.str "guard")) (aC (eV 4) aN))) aN)))))) (gN 8))
    l2_law)))))))
def l4_law : FStm := (sSeq (sAsg (eL (gCall 2 (fun ds _ => ds) m__law_bag) (aC (eV 0) (aC (eV 1) aN))) (gN 2))
    (sForE 100 (wRng1 (aC (eC (D.int 6)) aN)) (gN 3) l3_law))
def b_law : FStm := (sSeq (sForE 100 (wRng1 (aC (eL gMax (aC (eC (D.int 2)) (aC (eL gMin (aC (eC (D.int 6)) (aC (eL gLen (aC (eV 0) aN)) aN))) aN))) aN)) (gN 1) l4_law)
    (sRet (eC (D.bl true))))
def m_law : FL := run b_law 9
end LW
set_option Elab.async false
set_option linter.all false
set_option maxRecDepth 100000
set_option maxHeartbeats 4000000
namespace LW
open PySem PySem.Spec PyProof.Rows L2 Br
def top (i : Nat) : Stmt := PySem.Challenge.pw_callayers_k02_layers_made.main.body.getD i (.Pass ⟨0, 0, 0, 0⟩)
abbrev s_lead : Stmt := top 11
abbrev s_rename : Stmt := top 10
abbrev s_swallow : Stmt := top 9
abbrev s_retry : Stmt := top 8
abbrev s_breaker : Stmt := top 7
abbrev s_guard : Stmt := top 6
abbrev s_depth : Stmt := top 5
abbrev s_limit : Stmt := top 4
abbrev s_stale : Stmt := top 3
abbrev s_once : Stmt := top 2
abbrev s_cache : Stmt := top 1
abbrev s__law_take : Stmt := top 14
abbrev s__law_worth : Stmt := top 15
abbrev s__law_bag : Stmt := top 13
abbrev s_law : Stmt := top 16
structure Tx (K : PySem.W.Frag) (mg : Str → Option Value) : Prop where
  nokl : NoKL K
  f_len : mg "len" = none
  f_min : mg "min" = none
  f_max : mg "max" = none
  f_range : mg "range" = none
  f_repr : mg "repr" = none
  g_lead : mg "lead" = some (.ref (He.ga K "lead"))
  k_lead : PySem.W.keepIn K (.ref (He.ga K "lead")) = true
  g_rename : mg "rename" = some (.ref (He.ga K "rename"))
  k_rename : PySem.W.keepIn K (.ref (He.ga K "rename")) = true
  g_swallow : mg "swallow" = some (.ref (He.ga K "swallow"))
  k_swallow : PySem.W.keepIn K (.ref (He.ga K "swallow")) = true
  g_retry : mg "retry" = some (.ref (He.ga K "retry"))
  k_retry : PySem.W.keepIn K (.ref (He.ga K "retry")) = true
  g_breaker : mg "breaker" = some (.ref (He.ga K "breaker"))
  k_breaker : PySem.W.keepIn K (.ref (He.ga K "breaker")) = true
  g_guard : mg "guard" = some (.ref (He.ga K "guard"))
  k_guard : PySem.W.keepIn K (.ref (He.ga K "guard")) = true
  g_depth : mg "depth" = some (.ref (He.ga K "depth"))
  k_depth : PySem.W.keepIn K (.ref (He.ga K "depth")) = true
  g_limit : mg "limit" = some (.ref (He.ga K "limit"))
  k_limit : PySem.W.keepIn K (.ref (He.ga K "limit")) = true
  g_stale : mg "stale" = some (.ref (He.ga K "stale"))
  k_stale : PySem.W.keepIn K (.ref (He.ga K "stale")) = true
  g_once : mg "once" = some (.ref (He.ga K "once"))
  k_once : PySem.W.keepIn K (.ref (He.ga K "once")) = true
  g_cache : mg "cache" = some (.ref (He.ga K "cache"))
  k_cache : PySem.W.keepIn K (.ref (He.ga K "cache")) = true
  g__law_take : mg "_law_take" = some (.ref (He.ga K "_law_take"))
  k__law_take : PySem.W.keepIn K (.ref (He.ga K "_law_take")) = true
  g__law_worth : mg "_law_worth" = some (.ref (He.ga K "_law_worth"))
  k__law_worth : PySem.W.keepIn K (.ref (He.ga K "_law_worth")) = true
  f_abs : mg "abs" = none
  g__law_bag : mg "_law_bag" = some (.ref (He.ga K "_law_bag"))
  k__law_bag : PySem.W.keepIn K (.ref (He.ga K "_law_bag")) = true
section
variable {P : Program} {w : World} {K : PySem.W.Frag} {mg : Str → Option Value} {base : Heap}
theorem ab_law_1 {fd : FuncData} (F : FunD K "law" "law" (defArgs s_law) (defBody s_law) (defScope s_law) [] [] (He.ga K "law") fd) : AB P w K mg base fd [("_law_script" : Str)] 1 [] (fun ds _ => ds) := by
  exact AB.of_all (FunD.bindsN F fun _ _ _ _ _ _ us hl => match us, hl with | [_], _ => rfl) rfl
theorem ab_lead_0 {fd : FuncData} (F : FunD K "lead" "lead" (defArgs s_lead) (defBody s_lead) (defScope s_lead) [] [] (He.ga K "lead") fd) : AB P w K mg base fd [("arguments" : Str)] 0 [] (fun ds _ => ds.take 0 ++ [D.tup (ds.drop 0)]) := by
  obtain ⟨oc, od, dV, kV, doc, pm, an, cdv, ct, osl, rfl, lk, hcd, hD, _⟩ := F.ex
  rcases hD with ⟨_, rfl⟩ | ⟨e, _⟩
  case inr => exact absurd rfl e
  exact AB.of_starN (ps := []) (pv := "arguments") 0 (by decide) (by decide) fun us rest hl hr => match us, rest, hl, hr with | [], [], _, _ => rfl
theorem ab_lead_2 {fd : FuncData} (F : FunD K "lead" "lead" (defArgs s_lead) (defBody s_lead) (defScope s_lead) [] [] (He.ga K "lead") fd) : AB P w K mg base fd [("arguments" : Str)] 2 [] (fun ds _ => ds.take 0 ++ [D.tup (ds.drop 0)]) := by
  obtain ⟨oc, od, dV, kV, doc, pm, an, cdv, ct, osl, rfl, lk, hcd, hD, _⟩ := F.ex
  rcases hD with ⟨_, rfl⟩ | ⟨e, _⟩
  case inr => exact absurd rfl e
  exact AB.of_starN (ps := []) (pv := "arguments") 2 (by decide) (by decide) fun us rest hl hr => match us, rest, hl, hr with | [], [_, _], _, _ => rfl
theorem ab_lead_1 {fd : FuncData} (F : FunD K "lead" "lead" (defArgs s_lead) (defBody s_lead) (defScope s_lead) [] [] (He.ga K "lead") fd) : AB P w K mg base fd [("arguments" : Str)] 1 [] (fun ds _ => ds.take 0 ++ [D.tup (ds.drop 0)]) := by
  obtain ⟨oc, od, dV, kV, doc, pm, an, cdv, ct, osl, rfl, lk, hcd, hD, _⟩ := F.ex
  rcases hD with ⟨_, rfl⟩ | ⟨e, _⟩
  case inr => exact absurd rfl e
  exact AB.of_starN (ps := []) (pv := "arguments") 1 (by decide) (by decide) fun us rest hl hr => match us, rest, hl, hr with | [], [_], _, _ => rfl
theorem ab_rename_0_other_kind {fd : FuncData} (F : FunD K "rename" "rename" (defArgs s_rename) (defBody s_rename) (defScope s_rename) [] [] (He.ga K "rename") fd) : AB P w K mg base fd [("kind" : Str), ("other" : Str)] 0 [("other" : Str), ("kind" : Str)] (fun ds es => pk es 1 ++ (pk es 0 ++ ([]))) := by
  obtain ⟨oc, od, dV, kV, doc, pm, an, cdv, ct, osl, rfl, lk, hcd, hD, _⟩ := F.ex
  rcases hD with ⟨_, rfl⟩ | ⟨e, _⟩
  · exact AB.of_kbn (g := fun us ws => pk ws 1 ++ (pk ws 0 ++ ([]))) (gV := fun us ws => pk ws 1 ++ (pk ws 0 ++ ([]))) ⟨fun s us ws _ hu hw => BindsTo.of_eq (match us, ws, hu, hw with | [], [_, _], _, _ => rfl), fun r1 r3 => ((vals_pk r3 1).append ((vals_pk r3 0).append .nil))⟩ (fun vs zs h1 h2 => match vs, zs, h1, h2 with | [], [_, _], _, _ => rfl) (fun μ N H ds vs es zs q1 q2 h1 h2 => (DVs.append (dvs_pk q2 1) (DVs.append (dvs_pk q2 0) DVs.nil)))
  · exact absurd rfl e
theorem ab_rename_2 {fd : FuncData} (F : FunD K "rename" "rename" (defArgs s_rename) (defBody s_rename) (defScope s_rename) [] [] (He.ga K "rename") fd) : AB P w K mg base fd [("kind" : Str), ("other" : Str)] 2 [] (fun ds _ => ds) := by
  exact AB.of_all (FunD.bindsN F fun _ _ _ _ _ _ us hl => match us, hl with | [_, _], _ => rfl) rfl
theorem ab_swallow_0_value {fd : FuncData} (F : FunD K "swallow" "swallow" (defArgs s_swallow) (defBody s_swallow) (defScope s_swallow) [] [] (He.ga K "swallow") fd) : AB P w K mg base fd [("value" : Str), ("kinds" : Str)] 0 [("value" : Str)] (fun _ es => es ++ [D.tup []]) := by
  obtain ⟨oc, od, dV, kV, doc, pm, an, cdv, ct, osl, rfl, lk, hcd, hD, _⟩ := F.ex
  rcases hD with ⟨_, rfl⟩ | ⟨e, _⟩
  case inr => exact absurd rfl e
  exact AB.of_star0K (ps := [("value" : Str)]) (pv := "kinds") (by decide) fun ws hl => match ws, hl with | [_], _ => rfl
theorem ab_swallow_3 {fd : FuncData} (F : FunD K "swallow" "swallow" (defArgs s_swallow) (defBody s_swallow) (defScope s_swallow) [] [] (He.ga K "swallow") fd) : AB P w K mg base fd [("value" : Str), ("kinds" : Str)] 3 [] (fun ds _ => ds.take 1 ++ [D.tup (ds.drop 1)]) := by
  obtain ⟨oc, od, dV, kV, doc, pm, an, cdv, ct, osl, rfl, lk, hcd, hD, _⟩ := F.ex
  rcases hD with ⟨_, rfl⟩ | ⟨e, _⟩
  case inr => exact absurd rfl e
  exact AB.of_starN (ps := [("value" : Str)]) (pv := "kinds") 3 (by decide) (by decide) fun us rest hl hr => match us, rest, hl, hr with | [_], [_, _], _, _ => rfl
theorem ab_swallow_2 {fd : FuncData} (F : FunD K "swallow" "swallow" (defArgs s_swallow) (defBody s_swallow) (defScope s_swallow) [] [] (He.ga K "swallow") fd) : AB P w K mg base fd [("value" : Str), ("kinds" : Str)] 2 [] (fun ds _ => ds.take 1 ++ [D.tup (ds.drop 1)]) := by
  obtain ⟨oc, od, dV, kV, doc, pm, an, cdv, ct, osl, rfl, lk, hcd, hD, _⟩ := F.ex
  rcases hD with ⟨_, rfl⟩ | ⟨e, _⟩
  case inr => exact absurd rfl e
  exact AB.of_starN (ps := [("value" : Str)]) (pv := "kinds") 2 (by decide) (by decide) fun us rest hl hr => match us, rest, hl, hr with | [_], [_], _, _ => rfl
theorem ab_retry_0_n {fd : FuncData} (F : FunD K "retry" "retry" (defArgs s_retry) (defBody s_retry) (defScope s_retry) [] [] (He.ga K "retry") fd) : AB P w K mg base fd [("n" : Str), ("kinds" : Str)] 0 [("n" : Str)] (fun _ es => es ++ [D.tup []]) := by
  obtain ⟨oc, od, dV, kV, doc, pm, an, cdv, ct, osl, rfl, lk, hcd, hD, _⟩ := F.ex
  rcases hD with ⟨_, rfl⟩ | ⟨e, _⟩
  case inr => exact absurd rfl e
  exact AB.of_star0K (ps := [("n" : Str)]) (pv := "kinds") (by decide) fun ws hl => match ws, hl with | [_], _ => rfl
theorem ab_retry_1 {fd : FuncData} (F : FunD K "retry" "retry" (defArgs s_retry) (defBody s_retry) (defScope s_retry) [] [] (He.ga K "retry") fd) : AB P w K mg base fd [("n" : Str), ("kinds" : Str)] 1 [] (fun ds _ => ds.take 1 ++ [D.tup (ds.drop 1)]) := by
  obtain ⟨oc, od, dV, kV, doc, pm, an, cdv, ct, osl, rfl, lk, hcd, hD, _⟩ := F.ex
  rcases hD with ⟨_, rfl⟩ | ⟨e, _⟩
  case inr => exact absurd rfl e
  exact AB.of_starN (ps := [("n" : Str)]) (pv := "kinds") 1 (by decide) (by decide) fun us rest hl hr => match us, rest, hl, hr with | [_], [], _, _ => rfl
theorem ab_retry_3 {fd : FuncData} (F : FunD K "retry" "retry" (defArgs s_retry) (defBody s_retry) (defScope s_retry) [] [] (He.ga K "retry") fd) : AB P w K mg base fd [("n" : Str), ("kinds" : Str)] 3 [] (fun ds _ => ds.take 1 ++ [D.tup (ds.drop 1)]) := by
  obtain ⟨oc, od, dV, kV, doc, pm, an, cdv, ct, osl, rfl, lk, hcd, hD, _⟩ := F.ex
  rcases hD with ⟨_, rfl⟩ | ⟨e, _⟩
  case inr => exact absurd rfl e
  exact AB.of_starN (ps := [("n" : Str)]) (pv := "kinds") 3 (by decide) (by decide) fun us rest hl hr => match us, rest, hl, hr with | [_], [_, _], _, _ => rfl
theorem ab_retry_2 {fd : FuncData} (F : FunD K "retry" "retry" (defArgs s_retry) (defBody s_retry) (defScope s_retry) [] [] (He.ga K "retry") fd) : AB P w K mg base fd [("n" : Str), ("kinds" : Str)] 2 [] (fun ds _ => ds.take 1 ++ [D.tup (ds.drop 1)]) := by
  obtain ⟨oc, od, dV, kV, doc, pm, an, cdv, ct, osl, rfl, lk, hcd, hD, _⟩ := F.ex
  rcases hD with ⟨_, rfl⟩ | ⟨e, _⟩
  case inr => exact absurd rfl e
  exact AB.of_starN (ps := [("n" : Str)]) (pv := "kinds") 2 (by decide) (by decide) fun us rest hl hr => match us, rest, hl, hr with | [_], [_], _, _ => rfl
theorem ab_breaker_0_m_kind_n {fd : FuncData} (F : FunD K "breaker" "breaker" (defArgs s_breaker) (defBody s_breaker) (defScope s_breaker) [] [(("kind" : Str), V.int 0)] (He.ga K "breaker") fd) : AB P w K mg base fd [("n" : Str), ("m" : Str), ("kind" : Str)] 0 [("m" : Str), ("kind" : Str), ("n" : Str)] (fun ds es => pk es 2 ++ (pk es 0 ++ (pk es 1 ++ ([])))) := by
  obtain ⟨mv, hb⟩ := FunD.kbinds0 (ps := [("n" : Str), ("m" : Str), ("kind" : Str)]) F 0 [("m" : Str), ("kind" : Str), ("n" : Str)] [] (fun {α} (us mv ws : List α) => pk ws 2 ++ (pk ws 0 ++ (pk ws 1 ++ ([])))) (by simp) (by simp)
    (fun {vs mz zs us mv ws} r1 r2 r3 => ((vals_pk r3 2).append ((vals_pk r3 0).append ((vals_pk r3 1).append .nil))))
    fun D doc pm an cdv ct us mv ws hu hm hw => match us, mv, ws, hu, hm, hw with | [], [], [_, _, _], _, _, _ => (by show bindArgs _ _ = pure _; rfl)
  exact AB.of_kbn hb (fun vs zs h1 h2 => match vs, zs, h1, h2 with | [], [_, _, _], _, _ => rfl) (fun μ N H ds vs es zs q1 q2 h1 h2 => (DVs.append (dvs_pk q2 2) (DVs.append (dvs_pk q2 0) (DVs.append (dvs_pk q2 1) DVs.nil))))
theorem ab_breaker_2_kind {fd : FuncData} (F : FunD K "breaker" "breaker" (defArgs s_breaker) (defBody s_breaker) (defScope s_breaker) [] [(("kind" : Str), V.int 0)] (He.ga K "breaker") fd) : AB P w K mg base fd [("n" : Str), ("m" : Str), ("kind" : Str)] 2 [("kind" : Str)] (fun ds es => pk ds 0 ++ (pk ds 1 ++ (pk es 0 ++ ([])))) := by
  obtain ⟨mv, hb⟩ := FunD.kbinds0 (ps := [("n" : Str), ("m" : Str), ("kind" : Str)]) F 2 [("kind" : Str)] [] (fun {α} (us mv ws : List α) => pk us 0 ++ (pk us 1 ++ (pk ws 0 ++ ([])))) (by simp) (by simp)
    (fun {vs mz zs us mv ws} r1 r2 r3 => ((vals_pk r1 0).append ((vals_pk r1 1).append ((vals_pk r3 0).append .nil))))
    fun D doc pm an cdv ct us mv ws hu hm hw => match us, mv, ws, hu, hm, hw with | [_, _], [], [_], _, _, _ => (by show bindArgs _ _ = pure _; rfl)
  exact AB.of_kbn hb (fun vs zs h1 h2 => match vs, zs, h1, h2 with | [_, _], [_], _, _ => rfl) (fun μ N H ds vs es zs q1 q2 h1 h2 => (DVs.append (dvs_pk q1 0) (DVs.append (dvs_pk q1 1) (DVs.append (dvs_pk q2 0) DVs.nil))))
theorem ab_breaker_2 {fd : FuncData} (F : FunD K "breaker" "breaker" (defArgs s_breaker) (defBody s_breaker) (defScope s_breaker) [] [(("kind" : Str), V.int 0)] (He.ga K "breaker") fd) : AB P w K mg base fd [("n" : Str), ("m" : Str), ("kind" : Str)] 2 [] (fun ds _ => ds ++ [D.int 0]) := by
  obtain ⟨ds, hv, hb⟩ := FunD.binds0 (ps := [("n" : Str), ("m" : Str), ("kind" : Str)]) F 2 (by simp) rfl fun D doc pm an cdv ct us ks hu hk => match us, ks, hu, hk with | [_, _], [_], _, _ => ⟨_, _, _, _, _, _, rfl, rfl, rfl⟩
  exact AB.of_binds hb hv (Dfl.int Dfl.nil) rfl
theorem ab_guard_0_kind {fd : FuncData} (F : FunD K "guard" "guard" (defArgs s_guard) (defBody s_guard) (defScope s_guard) [] [(("kind" : Str), V.int 0)] (He.ga K "guard") fd) : AB P w K mg base fd [("kind" : Str)] 0 [("kind" : Str)] (fun ds es => pk es 0 ++ ([])) := by
  obtain ⟨mv, hb⟩ := FunD.kbinds0 (ps := [("kind" : Str)]) F 0 [("kind" : Str)] [] (fun {α} (us mv ws : List α) => pk ws 0 ++ ([])) (by simp) (by simp)
    (fun {vs mz zs us mv ws} r1 r2 r3 => ((vals_pk r3 0).append .nil))
    fun D doc pm an cdv ct us mv ws hu hm hw => match us, mv, ws, hu, hm, hw with | [], [], [_], _, _, _ => (by show bindArgs _ _ = pure _; rfl)
  exact AB.of_kbn hb (fun vs zs h1 h2 => match vs, zs, h1, h2 with | [], [_], _, _ => rfl) (fun μ N H ds vs es zs q1 q2 h1 h2 => (DVs.append (dvs_pk q2 0) DVs.nil))
theorem ab_guard_0 {fd : FuncData} (F : FunD K "guard" "guard" (defArgs s_guard) (defBody s_guard) (defScope s_guard) [] [(("kind" : Str), V.int 0)] (He.ga K "guard") fd) : AB P w K mg base fd [("kind" : Str)] 0 [] (fun ds _ => ds ++ [D.int 0]) := by
  obtain ⟨ds, hv, hb⟩ := FunD.binds0 (ps := [("kind" : Str)]) F 0 (by simp) rfl fun D doc pm an cdv ct us ks hu hk => match us, ks, hu, hk with | [], [_], _, _ => ⟨_, _, _, _, _, _, rfl, rfl, rfl⟩
  exact AB.of_binds hb hv (Dfl.int Dfl.nil) rfl
theorem ab_depth_0_kind_n {fd : FuncData} (F : FunD K "depth" "depth" (defArgs s_depth) (defBody s_depth) (defScope s_depth) [] [(("kind" : Str), V.int 0)] (He.ga K "depth") fd) : AB P w K mg base fd [("n" : Str), ("kind" : Str)] 0 [("kind" : Str), ("n" : Str)] (fun ds es => pk es 1 ++ (pk es 0 ++ ([]))) := by
  obtain ⟨mv, hb⟩ := FunD.kbinds0 (ps := [("n" : Str), ("kind" : Str)]) F 0 [("kind" : Str), ("n" : Str)] [] (fun {α} (us mv ws : List α) => pk ws 1 ++ (pk ws 0 ++ ([]))) (by simp) (by simp)
    (fun {vs mz zs us mv ws} r1 r2 r3 => ((vals_pk r3 1).append ((vals_pk r3 0).append .nil)))
    fun D doc pm an cdv ct us mv ws hu hm hw => match us, mv, ws, hu, hm, hw with | [], [], [_, _], _, _, _ => (by show bindArgs _ _ = pure _; rfl)
  exact AB.of_kbn hb (fun vs zs h1 h2 => match vs, zs, h1, h2 with | [], [_, _], _, _ => rfl) (fun μ N H ds vs es zs q1 q2 h1 h2 => (DVs.append (dvs_pk q2 1) (DVs.append (dvs_pk q2 0) DVs.nil)))
theorem ab_depth_1 {fd : FuncData} (F : FunD K "depth" "depth" (defArgs s_depth) (defBody s_depth) (defScope s_depth) [] [(("kind" : Str), V.int 0)] (He.ga K "depth") fd) : AB P w K mg base fd [("n" : Str), ("kind" : Str)] 1 [] (fun ds _ => ds ++ [D.int 0]) := by
  obtain ⟨ds, hv, hb⟩ := FunD.binds0 (ps := [("n" : Str), ("kind" : Str)]) F 1 (by simp) rfl fun D doc pm an cdv ct us ks hu hk => match us, ks, hu, hk with | [_], [_], _, _ => ⟨_, _, _, _, _, _, rfl, rfl, rfl⟩
  exact AB.of_binds hb hv (Dfl.int Dfl.nil) rfl
theorem ab_limit_0_n_kind {fd : FuncData} (F : FunD K "limit" "limit" (defArgs s_limit) (defBody s_limit) (defScope s_limit) [] [(("kind" : Str), V.int 0)] (He.ga K "limit") fd) : AB P w K mg base fd [("n" : Str), ("kind" : Str)] 0 [("n" : Str), ("kind" : Str)] (fun ds es => pk es 0 ++ (pk es 1 ++ ([]))) := by
  obtain ⟨mv, hb⟩ := FunD.kbinds0 (ps := [("n" : Str), ("kind" : Str)]) F 0 [("n" : Str), ("kind" : Str)] [] (fun {α} (us mv ws : List α) => pk ws 0 ++ (pk ws 1 ++ ([]))) (by simp) (by simp)
    (fun {vs mz zs us mv ws} r1 r2 r3 => ((vals_pk r3 0).append ((vals_pk r3 1).append .nil)))
    fun D doc pm an cdv ct us mv ws hu hm hw => match us, mv, ws, hu, hm, hw with | [], [], [_, _], _, _, _ => (by show bindArgs _ _ = pure _; rfl)
  exact AB.of_kbn hb (fun vs zs h1 h2 => match vs, zs, h1, h2 with | [], [_, _], _, _ => rfl) (fun μ N H ds vs es zs q1 q2 h1 h2 => (DVs.append (dvs_pk q2 0) (DVs.append (dvs_pk q2 1) DVs.nil)))
theorem ab_limit_1_kind {fd : FuncData} (F : FunD K "limit" "limit" (defArgs s_limit) (defBody s_limit) (defScope s_limit) [] [(("kind" : Str), V.int 0)] (He.ga K "limit") fd) : AB P w K mg base fd [("n" : Str), ("kind" : Str)] 1 [("kind" : Str)] (fun ds es => pk ds 0 ++ (pk es 0 ++ ([]))) := by
  obtain ⟨mv, hb⟩ := FunD.kbinds0 (ps := [("n" : Str), ("kind" : Str)]) F 1 [("kind" : Str)] [] (fun {α} (us mv ws : List α) => pk us 0 ++ (pk ws 0 ++ ([]))) (by simp) (by simp)
    (fun {vs mz zs us mv ws} r1 r2 r3 => ((vals_pk r1 0).append ((vals_pk r3 0).append .nil)))
    fun D doc pm an cdv ct us mv ws hu hm hw => match us, mv, ws, hu, hm, hw with | [_], [], [_], _, _, _ => (by show bindArgs _ _ = pure _; rfl)
  exact AB.of_kbn hb (fun vs zs h1 h2 => match vs, zs, h1, h2 with | [_], [_], _, _ => rfl) (fun μ N H ds vs es zs q1 q2 h1 h2 => (DVs.append (dvs_pk q1 0) (DVs.append (dvs_pk q2 0) DVs.nil)))
theorem ab_limit_1 {fd : FuncData} (F : FunD K "limit" "limit" (defArgs s_limit) (defBody s_limit) (defScope s_limit) [] [(("kind" : Str), V.int 0)] (He.ga K "limit") fd) : AB P w K mg base fd [("n" : Str), ("kind" : Str)] 1 [] (fun ds _ => ds ++ [D.int 0]) := by
  obtain ⟨ds, hv, hb⟩ := FunD.binds0 (ps := [("n" : Str), ("kind" : Str)]) F 1 (by simp) rfl fun D doc pm an cdv ct us ks hu hk => match us, ks, hu, hk with | [_], [_], _, _ => ⟨_, _, _, _, _, _, rfl, rfl, rfl⟩
  exact AB.of_binds hb hv (Dfl.int Dfl.nil) rfl
theorem ab_stale_0 {fd : FuncData} (F : FunD K "stale" "stale" (defArgs s_stale) (defBody s_stale) (defScope s_stale) [] [] (He.ga K "stale") fd) : AB P w K mg base fd [("kinds" : Str)] 0 [] (fun ds _ => ds.take 0 ++ [D.tup (ds.drop 0)]) := by
  obtain ⟨oc, od, dV, kV, doc, pm, an, cdv, ct, osl, rfl, lk, hcd, hD, _⟩ := F.ex
  rcases hD with ⟨_, rfl⟩ | ⟨e, _⟩
  case inr => exact absurd rfl e
  exact AB.of_starN (ps := []) (pv := "kinds") 0 (by decide) (by decide) fun us rest hl hr => match us, rest, hl, hr with | [], [], _, _ => rfl
theorem ab_stale_2 {fd : FuncData} (F : FunD K "stale" "stale" (defArgs s_stale) (defBody s_stale) (defScope s_stale) [] [] (He.ga K "stale") fd) : AB P w K mg base fd [("kinds" : Str)] 2 [] (fun ds _ => ds.take 0 ++ [D.tup (ds.drop 0)]) := by
  obtain ⟨oc, od, dV, kV, doc, pm, an, cdv, ct, osl, rfl, lk, hcd, hD, _⟩ := F.ex
  rcases hD with ⟨_, rfl⟩ | ⟨e, _⟩
  case inr => exact absurd rfl e
  exact AB.of_starN (ps := []) (pv := "kinds") 2 (by decide) (by decide) fun us rest hl hr => match us, rest, hl, hr with | [], [_, _], _, _ => rfl
theorem ab_stale_1 {fd : FuncData} (F : FunD K "stale" "stale" (defArgs s_stale) (defBody s_stale) (defScope s_stale) [] [] (He.ga K "stale") fd) : AB P w K mg base fd [("kinds" : Str)] 1 [] (fun ds _ => ds.take 0 ++ [D.tup (ds.drop 0)]) := by
  obtain ⟨oc, od, dV, kV, doc, pm, an, cdv, ct, osl, rfl, lk, hcd, hD, _⟩ := F.ex
  rcases hD with ⟨_, rfl⟩ | ⟨e, _⟩
  case inr => exact absurd rfl e
  exact AB.of_starN (ps := []) (pv := "kinds") 1 (by decide) (by decide) fun us rest hl hr => match us, rest, hl, hr with | [], [_], _, _ => rfl
theorem ab_once_0 {fd : FuncData} (F : FunD K "once" "once" (defArgs s_once) (defBody s_once) (defScope s_once) [] [] (He.ga K "once") fd) : AB P w K mg base fd [] 0 [] (fun ds _ => ds) := by
  exact AB.of_all (FunD.bindsN F fun _ _ _ _ _ _ us hl => match us, hl with | [], _ => rfl) rfl
theorem ab_cache_0 {fd : FuncData} (F : FunD K "cache" "cache" (defArgs s_cache) (defBody s_cache) (defScope s_cache) [] [] (He.ga K "cache") fd) : AB P w K mg base fd [] 0 [] (fun ds _ => ds) := by
  exact AB.of_all (FunD.bindsN F fun _ _ _ _ _ _ us hl => match us, hl with | [], _ => rfl) rfl
theorem ab__law_take_2 {fd : FuncData} (F : FunD K "_law_take" "_law_take" (defArgs s__law_take) (defBody s__law_take) (defScope s__law_take) [] [] (He.ga K "_law_take") fd) : AB P w K mg base fd [("_law_bag_here" : Str), ("_law_many" : Str)] 2 [] (fun ds _ => ds) := by
  exact AB.of_all (FunD.bindsN F fun _ _ _ _ _ _ us hl => match us, hl with | [_, _], _ => rfl) rfl
theorem ab__law_worth_1 {fd : FuncData} (F : FunD K "_law_worth" "_law_worth" (defArgs s__law_worth) (defBody s__law_worth) (defScope s__law_worth) [] [] (He.ga K "_law_worth") fd) : AB P w K mg base fd [("_law_bag_here" : Str)] 1 [] (fun ds _ => ds) := by
  exact AB.of_all (FunD.bindsN F fun _ _ _ _ _ _ us hl => match us, hl with | [_], _ => rfl) rfl
theorem ab__law_bag_2 {fd : FuncData} (F : FunD K "_law_bag" "_law_bag" (defArgs s__law_bag) (defBody s__law_bag) (defScope s__law_bag) [] [] (He.ga K "_law_bag") fd) : AB P w K mg base fd [("_law_script" : Str), ("_law_at" : Str)] 2 [] (fun ds _ => ds) := by
  exact AB.of_all (FunD.bindsN F fun _ _ _ _ _ _ us hl => match us, hl with | [_, _], _ => rfl) rfl
theorem sc_lead : FnScope [("arguments" : Str)] [("arguments" : Str)] (defScope s_lead) := ⟨rfl, rfl, rfl, by decide +kernel, rfl, by decide +kernel, by decide +kernel⟩
theorem ok_lead {fd : FuncData} (T : Tx K mg) (F : FunD K "lead" "lead" (defArgs s_lead) (defBody s_lead) (defScope s_lead) [] [] (He.ga K "lead") fd) : FnM P w K mg base 1 (He.ga K "lead") fd [("arguments" : Str)] m_lead := by
  refine fnM_of F sc_lead fun cdv A outer s H E hr hg => ?_
  have hgd : (A.deeper (envOfC "lead" (defScope s_lead) s.heap.objs.size (He.ga K "lead") cdv)).guards = some [] := hg
  have tk := takes_of (X := cxOf (L2.CX P w) P w K mg base [("arguments" : Str)] "lead" (defScope s_lead) (He.ga K "lead") cdv A outer s H E) rfl rfl rfl rfl
  exact (mss_one (ms_ret (me_tup (ma_cons me_str (ma_cons (me_v 0) ma_nil)))))
theorem sc_rename : FnScope [("kind" : Str), ("other" : Str)] [("kind" : Str), ("other" : Str)] (defScope s_rename) := ⟨rfl, rfl, rfl, by decide +kernel, rfl, by decide +kernel, by decide +kernel⟩
theorem ok_rename {fd : FuncData} (T : Tx K mg) (F : FunD K "rename" "rename" (defArgs s_rename) (defBody s_rename) (defScope s_rename) [] [] (He.ga K "rename") fd) : FnM P w K mg base 1 (He.ga K "rename") fd [("kind" : Str), ("other" : Str)] m_rename := by
  refine fnM_of F sc_rename fun cdv A outer s H E hr hg => ?_
  have hgd : (A.deeper (envOfC "rename" (defScope s_rename) s.heap.objs.size (He.ga K "rename") cdv)).guards = some [] := hg
  have tk := takes_of (X := cxOf (L2.CX P w) P w K mg base [("kind" : Str), ("other" : Str)] "rename" (defScope s_rename) (He.ga K "rename") cdv A outer s H E) rfl rfl rfl rfl
  exact (mss_one (ms_ret (me_tup (ma_cons me_str (ma_cons (me_v 0) (ma_cons (me_v 1) ma_nil))))))
theorem sc_swallow : FnScope [("value" : Str), ("kinds" : Str)] [("value" : Str), ("kinds" : Str)] (defScope s_swallow) := ⟨rfl, rfl, rfl, by decide +kernel, rfl, by decide +kernel, by decide +kernel⟩
theorem ok_swallow {fd : FuncData} (T : Tx K mg) (F : FunD K "swallow" "swallow" (defArgs s_swallow) (defBody s_swallow) (defScope s_swallow) [] [] (He.ga K "swallow") fd) : FnM P w K mg base 1 (He.ga K "swallow") fd [("value" : Str), ("kinds" : Str)] m_swallow := by
  refine fnM_of F sc_swallow fun cdv A outer s H E hr hg => ?_
  have hgd : (A.deeper (envOfC "swallow" (defScope s_swallow) s.heap.objs.size (He.ga K "swallow") cdv)).guards = some [] := hg
  have tk := takes_of (X := cxOf (L2.CX P w) P w K mg base [("value" : Str), ("kinds" : Str)] "swallow" (defScope s_swallow) (He.ga K "swallow") cdv A outer s H E) rfl rfl rfl rfl
  exact (mss_one (ms_ret (me_tup (ma_cons me_str (ma_cons (me_v 0) (ma_cons (me_v 1) ma_nil))))))
theorem sc_retry : FnScope [("n" : Str), ("kinds" : Str)] [("n" : Str), ("kinds" : Str)] (defScope s_retry) := ⟨rfl, rfl, rfl, by decide +kernel, rfl, by decide +kernel, by decide +kernel⟩
theorem ok_retry {fd : FuncData} (T : Tx K mg) (F : FunD K "retry" "retry" (defArgs s_retry) (defBody s_retry) (defScope s_retry) [] [] (He.ga K "retry") fd) : FnM P w K mg base 1 (He.ga K "retry") fd [("n" : Str), ("kinds" : Str)] m_retry := by
  refine fnM_of F sc_retry fun cdv A outer s H E hr hg => ?_
  have hgd : (A.deeper (envOfC "retry" (defScope s_retry) s.heap.objs.size (He.ga K "retry") cdv)).guards = some [] := hg
  have tk := takes_of (X := cxOf (L2.CX P w) P w K mg base [("n" : Str), ("kinds" : Str)] "retry" (defScope s_retry) (He.ga K "retry") cdv A outer s H E) rfl rfl rfl rfl
  exact (mss_one (ms_ret (me_tup (ma_cons me_str (ma_cons (me_v 0) (ma_cons (me_v 1) ma_nil))))))
theorem sc_breaker : FnScope [("n" : Str), ("m" : Str), ("kind" : Str)] [("n" : Str), ("m" : Str), ("kind" : Str)] (defScope s_breaker) := ⟨rfl, rfl, rfl, by decide +kernel, rfl, by decide +kernel, by decide +kernel⟩
theorem ok_breaker {fd : FuncData} (T : Tx K mg) (F : FunD K "breaker" "breaker" (defArgs s_breaker) (defBody s_breaker) (defScope s_breaker) [] [(("kind" : Str), V.int 0)] (He.ga K "breaker") fd) : FnM P w K mg base 1 (He.ga K "breaker") fd [("n" : Str), ("m" : Str), ("kind" : Str)] m_breaker := by
  refine fnM_of F sc_breaker fun cdv A outer s H E hr hg => ?_
  have hgd : (A.deeper (envOfC "breaker" (defScope s_breaker) s.heap.objs.size (He.ga K "breaker") cdv)).guards = some [] := hg
  have tk := takes_of (X := cxOf (L2.CX P w) P w K mg base [("n" : Str), ("m" : Str), ("kind" : Str)] "breaker" (defScope s_breaker) (He.ga K "breaker") cdv A outer s H E) rfl rfl rfl rfl
  exact (mss_one (ms_ret (me_tup (ma_cons me_str (ma_cons (me_v 0) (ma_cons (me_v 1) (ma_cons (me_v 2) ma_nil)))))))
theorem sc_guard : FnScope [("kind" : Str)] [("kind" : Str)] (defScope s_guard) := ⟨rfl, rfl, rfl, by decide +kernel, rfl, by decide +kernel, by decide +kernel⟩
theorem ok_guard {fd : FuncData} (T : Tx K mg) (F : FunD K "guard" "guard" (defArgs s_guard) (defBody s_guard) (defScope s_guard) [] [(("kind" : Str), V.int 0)] (He.ga K "guard") fd) : FnM P w K mg base 1 (He.ga K "guard") fd [("kind" : Str)] m_guard := by
  refine fnM_of F sc_guard fun cdv A outer s H E hr hg => ?_
  have hgd : (A.deeper (envOfC "guard" (defScope s_guard) s.heap.objs.size (He.ga K "guard") cdv)).guards = some [] := hg
  have tk := takes_of (X := cxOf (L2.CX P w) P w K mg base [("kind" : Str)] "guard" (defScope s_guard) (He.ga K "guard") cdv A outer s H E) rfl rfl rfl rfl
  exact (mss_one (ms_ret (me_tup (ma_cons me_str (ma_cons (me_v 0) ma_nil)))))
theorem sc_depth : FnScope [("n" : Str), ("kind" : Str)] [("n" : Str), ("kind" : Str)] (defScope s_depth) := ⟨rfl, rfl, rfl, by decide +kernel, rfl, by decide +kernel, by decide +kernel⟩
theorem ok_depth {fd : FuncData} (T : Tx K mg) (F : FunD K "depth" "depth" (defArgs s_depth) (defBody s_depth) (defScope s_depth) [] [(("kind" : Str), V.int 0)] (He.ga K "depth") fd) : FnM P w K mg base 1 (He.ga K "depth") fd [("n" : Str), ("kind" : Str)] m_depth := by
  refine fnM_of F sc_depth fun cdv A outer s H E hr hg => ?_
  have hgd : (A.deeper (envOfC "depth" (defScope s_depth) s.heap.objs.size (He.ga K "depth") cdv)).guards = some [] := hg
  have tk := takes_of (X := cxOf (L2.CX P w) P w K mg base [("n" : Str), ("kind" : Str)] "depth" (defScope s_depth) (He.ga K "depth") cdv A outer s H E) rfl rfl rfl rfl
  exact (mss_one (ms_ret (me_tup (ma_cons me_str (ma_cons (me_v 0) (ma_cons (me_v 1) ma_nil))))))
theorem sc_limit : FnScope [("n" : Str), ("kind" : Str)] [("n" : Str), ("kind" : Str)] (defScope s_limit) := ⟨rfl, rfl, rfl, by decide +kernel, rfl, by decide +kernel, by decide +kernel⟩
theorem ok_limit {fd : FuncData} (T : Tx K mg) (F : FunD K "limit" "limit" (defArgs s_limit) (defBody s_limit) (defScope s_limit) [] [(("kind" : Str), V.int 0)] (He.ga K "limit") fd) : FnM P w K mg base 1 (He.ga K "limit") fd [("n" : Str), ("kind" : Str)] m_limit := by
  refine fnM_of F sc_limit fun cdv A outer s H E hr hg => ?_
  have hgd : (A.deeper (envOfC "limit" (defScope s_limit) s.heap.objs.size (He.ga K "limit") cdv)).guards = some [] := hg
  have tk := takes_of (X := cxOf (L2.CX P w) P w K mg base [("n" : Str), ("kind" : Str)] "limit" (defScope s_limit) (He.ga K "limit") cdv A outer s H E) rfl rfl rfl rfl
  exact (mss_one (ms_ret (me_tup (ma_cons me_str (ma_cons (me_v 0) (ma_cons (me_v 1) ma_nil))))))
theorem sc_stale : FnScope [("kinds" : Str)] [("kinds" : Str)] (defScope s_stale) := ⟨rfl, rfl, rfl, by decide +kernel, rfl, by decide +kernel, by decide +kernel⟩
theorem ok_stale {fd : FuncData} (T : Tx K mg) (F : FunD K "stale" "stale" (defArgs s_stale) (defBody s_stale) (defScope s_stale) [] [] (He.ga K "stale") fd) : FnM P w K mg base 1 (He.ga K "stale") fd [("kinds" : Str)] m_stale := by
  refine fnM_of F sc_stale fun cdv A outer s H E hr hg => ?_
  have hgd : (A.deeper (envOfC "stale" (defScope s_stale) s.heap.objs.size (He.ga K "stale") cdv)).guards = some [] := hg
  have tk := takes_of (X := cxOf (L2.CX P w) P w K mg base [("kinds" : Str)] "stale" (defScope s_stale) (He.ga K "stale") cdv A outer s H E) rfl rfl rfl rfl
  exact (mss_one (ms_ret (me_tup (ma_cons me_str (ma_cons (me_v 0) ma_nil)))))
theorem sc_once : FnScope [] [] (defScope s_once) := ⟨rfl, rfl, rfl, by decide +kernel, rfl, by decide +kernel, by decide +kernel⟩
theorem ok_once {fd : FuncData} (T : Tx K mg) (F : FunD K "once" "once" (defArgs s_once) (defBody s_once) (defScope s_once) [] [] (He.ga K "once") fd) : FnM P w K mg base 1 (He.ga K "once") fd [] m_once := by
  refine fnM_of F sc_once fun cdv A outer s H E hr hg => ?_
  have hgd : (A.deeper (envOfC "once" (defScope s_once) s.heap.objs.size (He.ga K "once") cdv)).guards = some [] := hg
  have tk := takes_of (X := cxOf (L2.CX P w) P w K mg base [] "once" (defScope s_once) (He.ga K "once") cdv A outer s H E) rfl rfl rfl rfl
  exact (mss_one (ms_ret (me_tup (ma_cons me_str ma_nil))))
theorem sc_cache : FnScope [] [] (defScope s_cache) := ⟨rfl, rfl, rfl, by decide +kernel, rfl, by decide +kernel, by decide +kernel⟩
theorem ok_cache {fd : FuncData} (T : Tx K mg) (F : FunD K "cache" "cache" (defArgs s_cache) (defBody s_cache) (defScope s_cache) [] [] (He.ga K "cache") fd) : FnM P w K mg base 1 (He.ga K "cache") fd [] m_cache := by
  refine fnM_of F sc_cache fun cdv A outer s H E hr hg => ?_
  have hgd : (A.deeper (envOfC "cache" (defScope s_cache) s.heap.objs.size (He.ga K "cache") cdv)).guards = some [] := hg
  have tk := takes_of (X := cxOf (L2.CX P w) P w K mg base [] "cache" (defScope s_cache) (He.ga K "cache") cdv A outer s H E) rfl rfl rfl rfl
  exact (mss_one (ms_ret (me_tup (ma_cons me_str ma_nil))))
theorem sc__law_take : FnScope [("_law_bag_here" : Str), ("_law_many" : Str), ("_law_mixed" : Str), ("_law_digit" : Str)] [("_law_bag_here" : Str), ("_law_many" : Str)] (defScope s__law_take) := ⟨rfl, rfl, rfl, by decide +kernel, rfl, by decide +kernel, by decide +kernel⟩
theorem ok__law_take {fd : FuncData} (T : Tx K mg) (F : FunD K "_law_take" "_law_take" (defArgs s__law_take) (defBody s__law_take) (defScope s__law_take) [] [] (He.ga K "_law_take") fd) : FnM P w K mg base 1 (He.ga K "_law_take") fd [("_law_bag_here" : Str), ("_law_many" : Str)] m__law_take := by
  refine fnM_of F sc__law_take fun cdv A outer s H E hr hg => ?_
  have hgd : (A.deeper (envOfC "_law_take" (defScope s__law_take) s.heap.objs.size (He.ga K "_law_take") cdv)).guards = some [] := hg
  have tk := takes_of (X := cxOf (L2.CX P w) P w K mg base [("_law_bag_here" : Str), ("_law_many" : Str), ("_law_mixed" : Str), ("_law_digit" : Str)] "_law_take" (defScope s__law_take) (He.ga K "_law_take") cdv A outer s H E) rfl rfl rfl rfl
  exact (mss_cons (ms_if (mt_cmp om_gt (me_ix ixm (me_v 0) me_int (fun _ _ => rfl)) me_int (nomark _)) (mss_cons (ms_set 3 sc__law_take.nd rfl (by first | exact Or.inl rfl | exact Or.inr rfl) (me_op om_mod (me_ix ixm (me_v 0) me_int (fun _ _ => rfl)) (me_v 1)))
    (mss_cons (ms_asgT' (me_op om_fdiv (me_ix ixm (me_v 0) me_int (fun _ _ => rfl)) (me_v 1)) (mg_sub (me_v 0) me_int))
    (mss_one (ms_ret (me_v 3))))) mss_nil)
    (mss_cons (ms_asgT' (me_op om_add (me_ix ixm (me_v 0) me_int (fun _ _ => rfl)) me_int) (mg_sub (me_v 0) me_int))
    (mss_cons (ms_set 2 sc__law_take.nd rfl (by first | exact Or.inl rfl | exact Or.inr rfl) (me_op om_mod (me_op om_pow (me_op om_add (me_ix ixm (me_v 0) me_int (fun _ _ => rfl)) (me_op om_mul' me_int (me_ix ixm (me_v 0) me_int (fun _ _ => rfl)))) me_int) me_int))
    (mss_cons (ms_set 2 sc__law_take.nd rfl (by first | exact Or.inl rfl | exact Or.inr rfl) (me_op om_mod (me_op om_pow (me_op om_add (me_v 2) (me_op om_mul' me_int (me_ix ixm (me_v 0) me_int (fun _ _ => rfl)))) me_int) me_int))
    (mss_one (ms_ret (me_op om_mod (me_op om_fdiv (me_v 2) me_int) (me_v 1))))))))
theorem sc__law_worth : FnScope [("_law_bag_here" : Str)] [("_law_bag_here" : Str)] (defScope s__law_worth) := ⟨rfl, rfl, rfl, by decide +kernel, rfl, by decide +kernel, by decide +kernel⟩
theorem ok__law_worth {fd : FuncData} (T : Tx K mg) (F : FunD K "_law_worth" "_law_worth" (defArgs s__law_worth) (defBody s__law_worth) (defScope s__law_worth) [] [] (He.ga K "_law_worth") fd) {fd__law_take : FuncData} (F__law_take : FnM P w K mg base 1 (He.ga K "_law_take") fd__law_take [("_law_bag_here" : Str), ("_law_many" : Str)] m__law_take) (E_ab__law_take_2 : AB P w K mg base fd__law_take [("_law_bag_here" : Str), ("_law_many" : Str)] 2 [] (fun ds _ => ds)) : FnM P w K mg base 2 (He.ga K "_law_worth") fd [("_law_bag_here" : Str)] m__law_worth := by
  refine fnM_of F sc__law_worth fun cdv A outer s H E hr hg => ?_
  have hgd : (A.deeper (envOfC "_law_worth" (defScope s__law_worth) s.heap.objs.size (He.ga K "_law_worth") cdv)).guards = some [] := hg
  have tk := takes_of (X := cxOf (L2.CX P w) P w K mg base [("_law_bag_here" : Str)] "_law_worth" (defScope s__law_worth) (He.ga K "_law_worth") cdv A outer s H E) rfl rfl rfl rfl
  exact (mss_one (ms_ret (me_ix ixm (me_lst (ma_cons me_int (ma_cons me_int (ma_cons me_int (ma_cons me_int (ma_cons (me_un um_neg me_int) (ma_cons me_bl (ma_cons me_non (ma_cons me_str (ma_cons (me_tup (ma_cons me_int ma_nil)) (ma_cons (me_lst (ma_cons me_int ma_nil)) ma_nil))))))))))) (me_call F__law_take E_ab__law_take_2 (hr.mono (by decide)) hgd tk rfl T.g__law_take T.k__law_take (ma_cons (me_v 0) (ma_cons me_int ma_nil))) (fun _ _ => rfl))))
theorem sc__law_bag : FnScope [("_law_script" : Str), ("_law_at" : Str), ("_law_cell" : Str), ("_law_digits" : Str)] [("_law_script" : Str), ("_law_at" : Str)] (defScope s__law_bag) := ⟨rfl, rfl, rfl, by decide +kernel, rfl, by decide +kernel, by decide +kernel⟩
theorem ok__law_bag {fd : FuncData} (T : Tx K mg) (F : FunD K "_law_bag" "_law_bag" (defArgs s__law_bag) (defBody s__law_bag) (defScope s__law_bag) [] [] (He.ga K "_law_bag") fd) : FnM P w K mg base 1 (He.ga K "_law_bag") fd [("_law_script" : Str), ("_law_at" : Str)] m__law_bag := by
  refine fnM_of F sc__law_bag fun cdv A outer s H E hr hg => ?_
  have hgd : (A.deeper (envOfC "_law_bag" (defScope s__law_bag) s.heap.objs.size (He.ga K "_law_bag") cdv)).guards = some [] := hg
  have tk := takes_of (X := cxOf (L2.CX P w) P w K mg base [("_law_script" : Str), ("_law_at" : Str), ("_law_cell" : Str), ("_law_digits" : Str)] "_law_bag" (defScope s__law_bag) (He.ga K "_law_bag") cdv A outer s H E) rfl rfl rfl rfl
  exact (mss_cons (ms_set 2 sc__law_bag.nd rfl (by first | exact Or.inl rfl | exact Or.inr rfl) (me_if (mt_cmp om_lt (me_v 1) (me_cb cm_len (by rfl) T.f_len (by decide +kernel) (ma_cons (me_v 0) ma_nil)) (nomark _)) (me_ix ixm (me_v 0) (me_v 1) (fun _ _ => rfl)) me_int))
    (mss_cons (ms_set 3 sc__law_bag.nd rfl (by first | exact Or.inl rfl | exact Or.inr rfl) (me_if (mt_cmp om_ge (me_cb cm_abs (by rfl) T.f_abs (by decide +kernel) (ma_cons (me_v 2) ma_nil)) (me_op om_pow me_int me_int) (nomark _)) (me_cb cm_abs (by rfl) T.f_abs (by decide +kernel) (ma_cons (me_v 2) ma_nil)) me_int))
    (mss_one (ms_ret (me_new (ma_cons (me_v 3) (ma_cons (me_op om_mod (me_op om_mul' (me_op om_add (me_op om_add (me_op om_mod (me_v 2) me_int) (me_op om_mul' me_int (me_v 1))) me_int) me_int) me_int) (ma_cons me_int ma_nil))))))))
theorem sc_law : FnScope [("_law_script" : Str), ("_law_at" : Str), ("_law_bag_here" : Str), ("_law_turn" : Str), ("_law_a" : Str), ("_law_b" : Str), ("_law_c" : Str), ("_law_found" : Str), ("_law_due" : Str)] [("_law_script" : Str)] (defScope s_law) := ⟨rfl, rfl, rfl, by decide +kernel, rfl, by decide +kernel, by decide +kernel⟩
theorem ok_law {fd : FuncData} (T : Tx K mg) (F : FunD K "law" "law" (defArgs s_law) (defBody s_law) (defScope s_law) [] [] (He.ga K "law") fd) {fd_lead : FuncData} (F_lead : FnM P w K mg base 1 (He.ga K "lead") fd_lead [("arguments" : Str)] m_lead) (E_ab_lead_0 : AB P w K mg base fd_lead [("arguments" : Str)] 0 [] (fun ds _ => ds.take 0 ++ [D.tup (ds.drop 0)])) (E_ab_lead_2 : AB P w K mg base fd_lead [("arguments" : Str)] 2 [] (fun ds _ => ds.take 0 ++ [D.tup (ds.drop 0)])) (E_ab_lead_1 : AB P w K mg base fd_lead [("arguments" : Str)] 1 [] (fun ds _ => ds.take 0 ++ [D.tup (ds.drop 0)])) {fd_rename : FuncData} (F_rename : FnM P w K mg base 1 (He.ga K "rename") fd_rename [("kind" : Str), ("other" : Str)] m_rename) (E_ab_rename_0_other_kind : AB P w K mg base fd_rename [("kind" : Str), ("other" : Str)] 0 [("other" : Str), ("kind" : Str)] (fun ds es => pk es 1 ++ (pk es 0 ++ ([])))) (E_ab_rename_2 : AB P w K mg base fd_rename [("kind" : Str), ("other" : Str)] 2 [] (fun ds _ => ds)) {fd_swallow : FuncData} (F_swallow : FnM P w K mg base 1 (He.ga K "swallow") fd_swallow [("value" : Str), ("kinds" : Str)] m_swallow) (E_ab_swallow_0_value : AB P w K mg base fd_swallow [("value" : Str), ("kinds" : Str)] 0 [("value" : Str)] (fun _ es => es ++ [D.tup []])) (E_ab_swallow_3 : AB P w K mg base fd_swallow [("value" : Str), ("kinds" : Str)] 3 [] (fun ds _ => ds.take 1 ++ [D.tup (ds.drop 1)])) (E_ab_swallow_2 : AB P w K mg base fd_swallow [("value" : Str), ("kinds" : Str)] 2 [] (fun ds _ => ds.take 1 ++ [D.tup (ds.drop 1)])) {fd_retry : FuncData} (F_retry : FnM P w K mg base 1 (He.ga K "retry") fd_retry [("n" : Str), ("kinds" : Str)] m_retry) (E_ab_retry_0_n : AB P w K mg base fd_retry [("n" : Str), ("kinds" : Str)] 0 [("n" : Str)] (fun _ es => es ++ [D.tup []])) (E_ab_retry_1 : AB P w K mg base fd_retry [("n" : Str), ("kinds" : Str)] 1 [] (fun ds _ => ds.take 1 ++ [D.tup (ds.drop 1)])) (E_ab_retry_3 : AB P w K mg base fd_retry [("n" : Str), ("kinds" : Str)] 3 [] (fun ds _ => ds.take 1 ++ [D.tup (ds.drop 1)])) (E_ab_retry_2 : AB P w K mg base fd_retry [("n" : Str), ("kinds" : Str)] 2 [] (fun ds _ => ds.take 1 ++ [D.tup (ds.drop 1)])) {fd_breaker : FuncData} (F_breaker : FnM P w K mg base 1 (He.ga K "breaker") fd_breaker [("n" : Str), ("m" : Str), ("kind" : Str)] m_breaker) (E_ab_breaker_0_m_kind_n : AB P w K mg base fd_breaker [("n" : Str), ("m" : Str), ("kind" : Str)] 0 [("m" : Str), ("kind" : Str), ("n" : Str)] (fun ds es => pk es 2 ++ (pk es 0 ++ (pk es 1 ++ ([]))))) (E_ab_breaker_2_kind : AB P w K mg base fd_breaker [("n" : Str), ("m" : Str), ("kind" : Str)] 2 [("kind" : Str)] (fun ds es => pk ds 0 ++ (pk ds 1 ++ (pk es 0 ++ ([]))))) (E_ab_breaker_2 : AB P w K mg base fd_breaker [("n" : Str), ("m" : Str), ("kind" : Str)] 2 [] (fun ds _ => ds ++ [D.int 0])) {fd_guard : FuncData} (F_guard : FnM P w K mg base 1 (He.ga K "guard") fd_guard [("kind" : Str)] m_guard) (E_ab_guard_0_kind : AB P w K mg base fd_guard [("kind" : Str)] 0 [("kind" : Str)] (fun ds es => pk es 0 ++ ([]))) (E_ab_guard_0 : AB P w K mg base fd_guard [("kind" : Str)] 0 [] (fun ds _ => ds ++ [D.int 0])) {fd_depth : FuncData} (F_depth : FnM P w K mg base 1 (He.ga K "depth") fd_depth [("n" : Str), ("kind" : Str)] m_depth) (E_ab_depth_0_kind_n : AB P w K mg base fd_depth [("n" : Str), ("kind" : Str)] 0 [("kind" : Str), ("n" : Str)] (fun ds es => pk es 1 ++ (pk es 0 ++ ([])))) (E_ab_depth_1 : AB P w K mg base fd_depth [("n" : Str), ("kind" : Str)] 1 [] (fun ds _ => ds ++ [D.int 0])) {fd_limit : FuncData} (F_limit : FnM P w K mg base 1 (He.ga K "limit") fd_limit [("n" : Str), ("kind" : Str)] m_limit) (E_ab_limit_0_n_kind : AB P w K mg base fd_limit [("n" : Str), ("kind" : Str)] 0 [("n" : Str), ("kind" : Str)] (fun ds es => pk es 0 ++ (pk es 1 ++ ([])))) (E_ab_limit_1_kind : AB P w K mg base fd_limit [("n" : Str), ("kind" : Str)] 1 [("kind" : Str)] (fun ds es => pk ds 0 ++ (pk es 0 ++ ([])))) (E_ab_limit_1 : AB P w K mg base fd_limit [("n" : Str), ("kind" : Str)] 1 [] (fun ds _ => ds ++ [D.int 0])) {fd_stale : FuncData} (F_stale : FnM P w K mg base 1 (He.ga K "stale") fd_stale [("kinds" : Str)] m_stale) (E_ab_stale_0 : AB P w K mg base fd_stale [("kinds" : Str)] 0 [] (fun ds _ => ds.take 0 ++ [D.tup (ds.drop 0)])) (E_ab_stale_2 : AB P w K mg base fd_stale [("kinds" : Str)] 2 [] (fun ds _ => ds.take 0 ++ [D.tup (ds.drop 0)])) (E_ab_stale_1 : AB P w K mg base fd_stale [("kinds" : Str)] 1 [] (fun ds _ => ds.take 0 ++ [D.tup (ds.drop 0)])) {fd_once : FuncData} (F_once : FnM P w K mg base 1 (He.ga K "once") fd_once [] m_once) (E_ab_once_0 : AB P w K mg base fd_once [] 0 [] (fun ds _ => ds)) {fd_cache : FuncData} (F_cache : FnM P w K mg base 1 (He.ga K "cache") fd_cache [] m_cache) (E_ab_cache_0 : AB P w K mg base fd_cache [] 0 [] (fun ds _ => ds)) {fd__law_worth : FuncData} (F__law_worth : FnM P w K mg base 2 (He.ga K "_law_worth") fd__law_worth [("_law_bag_here" : Str)] m__law_worth) (E_ab__law_worth_1 : AB P w K mg base fd__law_worth [("_law_bag_here" : Str)] 1 [] (fun ds _ => ds)) {fd__law_bag : FuncData} (F__law_bag : FnM P w K mg base 1 (He.ga K "_law_bag") fd__law_bag [("_law_script" : Str), ("_law_at" : Str)] m__law_bag) (E_ab__law_bag_2 : AB P w K mg base fd__law_bag [("_law_script" : Str), ("_law_at" : Str)] 2 [] (fun ds _ => ds)) : FnM P w K mg base 3 (He.ga K "law") fd [("_law_script" : Str)] m_law := by
  refine fnM_of F sc_law fun cdv A outer s H E hr hg => ?_
  have hgd : (A.deeper (envOfC "law" (defScope s_law) s.heap.objs.size (He.ga K "law") cdv)).guards = some [] := hg
  have tk := takes_of (X := cxOf (L2.CX P w) P w K mg base [("_law_script" : Str), ("_law_at" : Str), ("_law_bag_here" : Str), ("_law_turn" : Str), ("_law_a" : Str), ("_law_b" : Str), ("_law_c" : Str), ("_law_found" : Str), ("_law_due" : Str)] "law" (defScope s_law) (He.ga K "law") cdv A outer s H E) rfl rfl rfl rfl
  exact (mss_cons (ms_for 100 (passes_of rfl) rfl (mi_range1 rfl T.f_range (ma_cons (me_cb (cm_max rfl) (by rfl) T.f_max (by decide +kernel) (ma_cons me_int (ma_cons (me_cb (cm_min rfl) (by rfl) T.f_min (by decide +kernel) (ma_cons me_int (ma_cons (me_cb cm_len (by rfl) T.f_len (by decide +kernel) (ma_cons (me_v 0) ma_nil)) ma_nil))) ma_nil))) ma_nil)) (mg_n 1 sc_law.nd rfl (by first | exact Or.inl rfl | exact Or.inr rfl)) (mss_cons (ms_set 2 sc_law.nd rfl (by first | exact Or.inl rfl | exact Or.inr rfl) (me_call F__law_bag E_ab__law_bag_2 (hr.mono (by decide)) hgd tk rfl T.g__law_bag T.k__law_bag (ma_cons (me_v 0) (ma_cons (me_v 1) ma_nil))))
    (mss_one (ms_for 100 (passes_of rfl) rfl (mi_range1 rfl T.f_range (ma_cons me_int ma_nil)) (mg_n 3 sc_law.nd rfl (by first | exact Or.inl rfl | exact Or.inr rfl)) (mss_cons (ms_par3 rfl sc_law.nd rfl rfl rfl (by decide) (by decide) (by decide) rfl rfl rfl (ma_cons (me_call F__law_worth E_ab__law_worth_1 (hr.mono (by decide)) hgd tk rfl T.g__law_worth T.k__law_worth (ma_cons (me_v 2) ma_nil)) (ma_cons (me_call F__law_worth E_ab__law_worth_1 (hr.mono (by decide)) hgd tk rfl T.g__law_worth T.k__law_worth (ma_cons (me_v 2) ma_nil)) (ma_cons (me_call F__law_worth E_ab__law_worth_1 (hr.mono (by decide)) hgd tk rfl T.g__law_worth T.k__law_worth (ma_cons (me_v 2) ma_nil)) ma_nil))) (by rfl))
    (mss_cons (ms_set 7 sc_law.nd rfl (by first | exact Or.inl rfl | exact Or.inr rfl) (me_lst (ma_cons (me_call0 F_cache E_ab_cache_0 (hr.mono (by decide)) hgd tk rfl T.g_cache T.k_cache) (ma_cons (me_call0 F_once E_ab_once_0 (hr.mono (by decide)) hgd tk rfl T.g_once T.k_once) (ma_cons (me_call F_stale E_ab_stale_1 (hr.mono (by decide)) hgd tk rfl T.g_stale T.k_stale (ma_cons (me_v 4) ma_nil)) (ma_cons (me_call F_stale E_ab_stale_2 (hr.mono (by decide)) hgd tk rfl T.g_stale T.k_stale (ma_cons (me_v 4) (ma_cons (me_v 5) ma_nil))) (ma_cons (me_call0 F_stale E_ab_stale_0 (hr.mono (by decide)) hgd tk rfl T.g_stale T.k_stale) ma_nil)))))))
    (mss_cons (ms_set 8 sc_law.nd rfl (by first | exact Or.inl rfl | exact Or.inr rfl) (me_lst (ma_cons (me_tup (ma_cons me_str ma_nil)) (ma_cons (me_tup (ma_cons me_str ma_nil)) (ma_cons (me_tup (ma_cons me_str (ma_cons (me_tup (ma_cons (me_v 4) ma_nil)) ma_nil))) (ma_cons (me_tup (ma_cons me_str (ma_cons (me_tup (ma_cons (me_v 4) (ma_cons (me_v 5) ma_nil))) ma_nil))) (ma_cons (me_tup (ma_cons me_str (ma_cons (me_tup ma_nil) ma_nil))) ma_nil)))))))
    (mss_cons (ms_set 7 sc_law.nd rfl (by first | exact Or.inl rfl | exact Or.inr rfl) (me_catV T.nokl (me_v 7) (me_lst (ma_cons (me_call F_limit E_ab_limit_1 (hr.mono (by decide)) hgd tk rfl T.g_limit T.k_limit (ma_cons (me_v 4) ma_nil)) (ma_cons (me_callK (ks := [("kind" : Str)]) F_limit E_ab_limit_1_kind (hr.mono (by decide)) hgd tk rfl T.g_limit T.k_limit (ma_cons (me_v 4) ma_nil) (mk_cons (me_v 5) mk_nil)) (ma_cons (me_callK0 (ks := [("n" : Str), ("kind" : Str)]) F_limit E_ab_limit_0_n_kind (hr.mono (by decide)) hgd tk rfl T.g_limit T.k_limit (mk_cons (me_v 4) (mk_cons (me_v 5) mk_nil))) ma_nil))))))
    (mss_cons (ms_set 8 sc_law.nd rfl (by first | exact Or.inl rfl | exact Or.inr rfl) (me_catV T.nokl (me_v 8) (me_lst (ma_cons (me_tup (ma_cons me_str (ma_cons (me_v 4) (ma_cons me_int ma_nil)))) (ma_cons (me_tup (ma_cons me_str (ma_cons (me_v 4) (ma_cons (me_v 5) ma_nil)))) (ma_cons (me_tup (ma_cons me_str (ma_cons (me_v 4) (ma_cons (me_v 5) ma_nil)))) ma_nil))))))
    (mss_cons (ms_set 7 sc_law.nd rfl (by first | exact Or.inl rfl | exact Or.inr rfl) (me_catV T.nokl (me_v 7) (me_lst (ma_cons (me_call F_depth E_ab_depth_1 (hr.mono (by decide)) hgd tk rfl T.g_depth T.k_depth (ma_cons (me_v 4) ma_nil)) (ma_cons (me_callK0 (ks := [("kind" : Str), ("n" : Str)]) F_depth E_ab_depth_0_kind_n (hr.mono (by decide)) hgd tk rfl T.g_depth T.k_depth (mk_cons (me_v 5) (mk_cons (me_v 4) mk_nil))) (ma_cons (me_call0 F_guard E_ab_guard_0 (hr.mono (by decide)) hgd tk rfl T.g_guard T.k_guard) (ma_cons (me_callK0 (ks := [("kind" : Str)]) F_guard E_ab_guard_0_kind (hr.mono (by decide)) hgd tk rfl T.g_guard T.k_guard (mk_cons (me_v 4) mk_nil)) ma_nil)))))))
    (mss_cons (ms_set 8 sc_law.nd rfl (by first | exact Or.inl rfl | exact Or.inr rfl) (me_catV T.nokl (me_v 8) (me_lst (ma_cons (me_tup (ma_cons me_str (ma_cons (me_v 4) (ma_cons me_int ma_nil)))) (ma_cons (me_tup (ma_cons me_str (ma_cons (me_v 4) (ma_cons (me_v 5) ma_nil)))) (ma_cons (me_tup (ma_cons me_str (ma_cons me_int ma_nil))) (ma_cons (me_tup (ma_cons me_str (ma_cons (me_v 4) ma_nil))) ma_nil)))))))
    (mss_cons (ms_set 7 sc_law.nd rfl (by first | exact Or.inl rfl | exact Or.inr rfl) (me_catN T.nokl (me_v 7) (me_lst (ma_cons (me_call F_breaker E_ab_breaker_2 (hr.mono (by decide)) hgd tk rfl T.g_breaker T.k_breaker (ma_cons (me_v 4) (ma_cons (me_v 5) ma_nil))) (ma_cons (me_callK (ks := [("kind" : Str)]) F_breaker E_ab_breaker_2_kind (hr.mono (by decide)) hgd tk rfl T.g_breaker T.k_breaker (ma_cons (me_v 4) (ma_cons (me_v 5) ma_nil)) (mk_cons (me_v 6) mk_nil)) ma_nil)))))
    (mss_cons (ms_set 8 sc_law.nd rfl (by first | exact Or.inl rfl | exact Or.inr rfl) (me_catN T.nokl (me_v 8) (me_lst (ma_cons (me_tup (ma_cons me_str (ma_cons (me_v 4) (ma_cons (me_v 5) (ma_cons me_int ma_nil))))) (ma_cons (me_tup (ma_cons me_str (ma_cons (me_v 4) (ma_cons (me_v 5) (ma_cons (me_v 6) ma_nil))))) ma_nil)))))
    (mss_cons (ms_expr (me_app (me_v 7) (ma_cons (me_callK0 (ks := [("m" : Str), ("kind" : Str), ("n" : Str)]) F_breaker E_ab_breaker_0_m_kind_n (hr.mono (by decide)) hgd tk rfl T.g_breaker T.k_breaker (mk_cons (me_v 5) (mk_cons (me_v 6) (mk_cons (me_v 4) mk_nil)))) ma_nil)))
    (mss_cons (ms_expr (me_app (me_v 8) (ma_cons (me_tup (ma_cons me_str (ma_cons (me_v 4) (ma_cons (me_v 5) (ma_cons (me_v 6) ma_nil))))) ma_nil)))
    (mss_cons (ms_set 7 sc_law.nd rfl (by first | exact Or.inl rfl | exact Or.inr rfl) (me_catV T.nokl (me_v 7) (me_lst (ma_cons (me_call F_retry E_ab_retry_2 (hr.mono (by decide)) hgd tk rfl T.g_retry T.k_retry (ma_cons (me_v 4) (ma_cons (me_v 5) ma_nil))) (ma_cons (me_call F_retry E_ab_retry_3 (hr.mono (by decide)) hgd tk rfl T.g_retry T.k_retry (ma_cons (me_v 4) (ma_cons (me_v 5) (ma_cons (me_v 6) ma_nil)))) (ma_cons (me_call F_retry E_ab_retry_1 (hr.mono (by decide)) hgd tk rfl T.g_retry T.k_retry (ma_cons (me_v 4) ma_nil)) (ma_cons (me_callK0 (ks := [("n" : Str)]) F_retry E_ab_retry_0_n (hr.mono (by decide)) hgd tk rfl T.g_retry T.k_retry (mk_cons (me_v 4) mk_nil)) ma_nil)))))))
    (mss_cons (ms_set 8 sc_law.nd rfl (by first | exact Or.inl rfl | exact Or.inr rfl) (me_catV T.nokl (me_v 8) (me_lst (ma_cons (me_tup (ma_cons me_str (ma_cons (me_v 4) (ma_cons (me_tup (ma_cons (me_v 5) ma_nil)) ma_nil)))) (ma_cons (me_tup (ma_cons me_str (ma_cons (me_v 4) (ma_cons (me_tup (ma_cons (me_v 5) (ma_cons (me_v 6) ma_nil))) ma_nil)))) (ma_cons (me_tup (ma_cons me_str (ma_cons (me_v 4) (ma_cons (me_tup ma_nil) ma_nil)))) (ma_cons (me_tup (ma_cons me_str (ma_cons (me_v 4) (ma_cons (me_tup ma_nil) ma_nil)))) ma_nil)))))))
    (mss_cons (ms_set 7 sc_law.nd rfl (by first | exact Or.inl rfl | exact Or.inr rfl) (me_catV T.nokl (me_v 7) (me_lst (ma_cons (me_call F_swallow E_ab_swallow_2 (hr.mono (by decide)) hgd tk rfl T.g_swallow T.k_swallow (ma_cons (me_v 4) (ma_cons (me_v 5) ma_nil))) (ma_cons (me_call F_swallow E_ab_swallow_3 (hr.mono (by decide)) hgd tk rfl T.g_swallow T.k_swallow (ma_cons (me_v 4) (ma_cons (me_v 5) (ma_cons (me_v 6) ma_nil)))) (ma_cons (me_callK0 (ks := [("value" : Str)]) F_swallow E_ab_swallow_0_value (hr.mono (by decide)) hgd tk rfl T.g_swallow T.k_swallow (mk_cons (me_v 4) mk_nil)) ma_nil))))))
    (mss_cons (ms_set 8 sc_law.nd rfl (by first | exact Or.inl rfl | exact Or.inr rfl) (me_catV T.nokl (me_v 8) (me_lst (ma_cons (me_tup (ma_cons me_str (ma_cons (me_v 4) (ma_cons (me_tup (ma_cons (me_v 5) ma_nil)) ma_nil)))) (ma_cons (me_tup (ma_cons me_str (ma_cons (me_v 4) (ma_cons (me_tup (ma_cons (me_v 5) (ma_cons (me_v 6) ma_nil))) ma_nil)))) (ma_cons (me_tup (ma_cons me_str (ma_cons (me_v 4) (ma_cons (me_tup ma_nil) ma_nil)))) ma_nil))))))
    (mss_cons (ms_set 7 sc_law.nd rfl (by first | exact Or.inl rfl | exact Or.inr rfl) (me_catV T.nokl (me_v 7) (me_lst (ma_cons (me_call F_rename E_ab_rename_2 (hr.mono (by decide)) hgd tk rfl T.g_rename T.k_rename (ma_cons (me_v 4) (ma_cons (me_v 5) ma_nil))) (ma_cons (me_callK0 (ks := [("other" : Str), ("kind" : Str)]) F_rename E_ab_rename_0_other_kind (hr.mono (by decide)) hgd tk rfl T.g_rename T.k_rename (mk_cons (me_v 5) (mk_cons (me_v 4) mk_nil))) ma_nil)))))
    (mss_cons (ms_set 8 sc_law.nd rfl (by first | exact Or.inl rfl | exact Or.inr rfl) (me_catV T.nokl (me_v 8) (me_lst (ma_cons (me_tup (ma_cons me_str (ma_cons (me_v 4) (ma_cons (me_v 5) ma_nil)))) (ma_cons (me_tup (ma_cons me_str (ma_cons (me_v 4) (ma_cons (me_v 5) ma_nil)))) ma_nil)))))
    (mss_cons (ms_set 7 sc_law.nd rfl (by first | exact Or.inl rfl | exact Or.inr rfl) (me_catV T.nokl (me_v 7) (me_lst (ma_cons (me_call F_lead E_ab_lead_1 (hr.mono (by decide)) hgd tk rfl T.g_lead T.k_lead (ma_cons (me_v 4) ma_nil)) (ma_cons (me_call F_lead E_ab_lead_2 (hr.mono (by decide)) hgd tk rfl T.g_lead T.k_lead (ma_cons (me_v 4) (ma_cons (me_v 5) ma_nil))) (ma_cons (me_call0 F_lead E_ab_lead_0 (hr.mono (by decide)) hgd tk rfl T.g_lead T.k_lead) ma_nil))))))
    (mss_cons (ms_set 8 sc_law.nd rfl (by first | exact Or.inl rfl | exact Or.inr rfl) (me_catV T.nokl (me_v 8) (me_lst (ma_cons (me_tup (ma_cons me_str (ma_cons (me_tup (ma_cons (me_v 4) ma_nil)) ma_nil))) (ma_cons (me_tup (ma_cons me_str (ma_cons (me_tup (ma_cons (me_v 4) (ma_cons (me_v 5) ma_nil))) ma_nil))) (ma_cons (me_tup (ma_cons me_str (ma_cons (me_tup ma_nil) ma_nil))) ma_nil))))))
    (mss_one (ms_if (mt_cmp (om_ne (hu64 hr)) (me_cb (cm_repr hgd (hu128 hr)) (by rfl) T.f_repr (by decide +kernel) (ma_cons (me_v 7) ma_nil)) (me_cb (cm_repr hgd (hu128 hr)) (by rfl) T.f_repr (by decide +kernel) (ma_cons (me_v 8) ma_nil)) (nomark _)) (mss_one (ms_ret me_bl)) mss_nil)))))))))))))))))))))))))
    (mss_one (ms_ret me_bl)))
end
end LW
set_option Elab.async false
set_option linter.all false
set_option maxRecDepth 100000
set_option maxHeartbeats 0
namespace LW
open PySem PySem.Spec PyProof.Rows L2 Br
def d_lead : He.DefD := ⟨("lead", none), "lead", "lead", defArgs s_lead, defBody s_lead, defScope s_lead, [], []⟩
def d_rename : He.DefD := ⟨("rename", none), "rename", "rename", defArgs s_rename, defBody s_rename, defScope s_rename, [], []⟩
def d_swallow : He.DefD := ⟨("swallow", none), "swallow", "swallow", defArgs s_swallow, defBody s_swallow, defScope s_swallow, [], []⟩
def d_retry : He.DefD := ⟨("retry", none), "retry", "retry", defArgs s_retry, defBody s_retry, defScope s_retry, [], []⟩
def d_breaker : He.DefD := ⟨("breaker", none), "breaker", "breaker", defArgs s_breaker, defBody s_breaker, defScope s_breaker, [], [("kind", .int 0)]⟩
def d_guard : He.DefD := ⟨("guard", none), "guard", "guard", defArgs s_guard, defBody s_guard, defScope s_guard, [], [("kind", .int 0)]⟩
def d_depth : He.DefD := ⟨("depth", none), "depth", "depth", defArgs s_depth, defBody s_depth, defScope s_depth, [], [("kind", .int 0)]⟩
def d_limit : He.DefD := ⟨("limit", none), "limit", "limit", defArgs s_limit, defBody s_limit, defScope s_limit, [], [("kind", .int 0)]⟩
def d_stale : He.DefD := ⟨("stale", none), "stale", "stale", defArgs s_stale, defBody s_stale, defScope s_stale, [], []⟩
def d_once : He.DefD := ⟨("once", none), "once", "once", defArgs s_once, defBody s_once, defScope s_once, [], []⟩
def d_cache : He.DefD := ⟨("cache", none), "cache", "cache", defArgs s_cache, defBody s_cache, defScope s_cache, [], []⟩
def d__law_take : He.DefD := ⟨("_law_take", none), "_law_take", "_law_take", defArgs s__law_take, defBody s__law_take, defScope s__law_take, [], []⟩
def d__law_worth : He.DefD := ⟨("_law_worth", none), "_law_worth", "_law_worth", defArgs s__law_worth, defBody s__law_worth, defScope s__law_worth, [], []⟩
def d__law_bag : He.DefD := ⟨("_law_bag", none), "_law_bag", "_law_bag", defArgs s__law_bag, defBody s__law_bag, defScope s__law_bag, [], []⟩
def d_law : He.DefD := ⟨("law", none), "law", "law", defArgs s_law, defBody s_law, defScope s_law, [], []⟩
def fn0 : List He.DefD := [d_lead, d_rename, d_swallow, d_retry, d_breaker, d_guard, d_depth, d_limit, d_stale, d_once, d_cache, d__law_take, d__law_worth, d__law_bag, d_law]
def fn : List He.DefD := fn0
def fa0 : List He.Fa := [(.free "len" : He.Fa), (.free "min" : He.Fa), (.free "max" : He.Fa), (.free "range" : He.Fa), (.free "repr" : He.Fa), (.glo "lead" : He.Fa), (.keep "lead" : He.Fa), (.glo "rename" : He.Fa), (.keep "rename" : He.Fa), (.glo "swallow" : He.Fa), (.keep "swallow" : He.Fa), (.glo "retry" : He.Fa), (.keep "retry" : He.Fa), (.glo "breaker" : He.Fa), (.keep "breaker" : He.Fa), (.glo "guard" : He.Fa), (.keep "guard" : He.Fa), (.glo "depth" : He.Fa), (.keep "depth" : He.Fa), (.glo "limit" : He.Fa), (.keep "limit" : He.Fa), (.glo "stale" : He.Fa), (.keep "stale" : He.Fa), (.glo "once" : He.Fa), (.keep "once" : He.Fa), (.glo "cache" : He.Fa), (.keep "cache" : He.Fa), (.glo "_law_take" : He.Fa), (.keep "_law_take" : He.Fa), (.glo "_law_worth" : He.Fa)]
def fa1 : List He.Fa := [(.keep "_law_worth" : He.Fa), (.free "abs" : He.Fa), (.glo "_law_bag" : He.Fa), (.keep "_law_bag" : He.Fa), (.glo "law" : He.Fa)]
def fa : List He.Fa := fa0 ++ fa1
def nms0 : List PySem.Str := [("__name__" : PySem.Str), ("cache" : PySem.Str), ("once" : PySem.Str), ("stale" : PySem.Str), ("limit" : PySem.Str), ("depth" : PySem.Str), ("guard" : PySem.Str), ("breaker" : PySem.Str), ("retry" : PySem.Str), ("swallow" : PySem.Str), ("rename" : PySem.Str), ("lead" : PySem.Str), ("_law_bag" : PySem.Str), ("_law_take" : PySem.Str), ("_law_worth" : PySem.Str)]
def nms : List PySem.Str := nms0
def ex (K : PySem.W.Frag) : Bool := K.all fun p => !(p.2.cls == .type "list")
abbrev RR : PySem.W.OpenRow := PySem.W.OpenLaw.row PySem.Challenge.rw_callayers_k02_layers_made
abbrev qv : Program := PySem.W.view RR.prog [16]
abbrev hk : PySem.W.Hook := He.hookX 5 fa fn [] [] ex
def ob (s : PySem.W.SharedT) := He.obsX 5 fa fn [] [] ex (HandSHeadRun.getT s)
theorem ob_eq (s : PySem.W.SharedT) : ob s = hk.obs s.abs := He.obsX_eq (HandSHeadRun.getT_eq s)
theorem run_ (w : World) : HandSHeadRun.RunEq RR qv hk ob 30000 nms w := by
  intro os
  kernel_rfl
theorem nokl_of {K : PySem.W.Frag} (h : ex K = true) : NoKL K := fun a o e c => by
  have := List.all_eq_true.mp h (a, o) (He.lookup_mem e)
  rw [c] at this
  exact absurd this (by decide)
theorem facts {w : World} {K : PySem.W.Frag} {h : Heap} {mg : Str → Option Value} {f : Addr} (X : K.In h) (G : h.Ns mainGlobals mg) (hfa : mg ("law" : Str) = some (.ref f)) (c : He.SaysX fa fn [] [] ex w h K) :
    ∃ fd : FuncData, ∀ base : Heap, K.In base → base.Ns mainGlobals mg → FnM PySem.Challenge.rw_callayers_k02_layers_made.prog w K mg base 3 f fd [("_law_script" : Str)] m_law ∧ AB PySem.Challenge.rw_callayers_k02_layers_made.prog w K mg base fd [("_law_script" : Str)] 1 [] (fun ds _ => ds) := by
  have e := hfa.symm.trans (He.glo_ok X G (c.t.d.fact 34 (f := .glo "law") rfl))
  cases e
  have T : Tx K mg := { nokl := nokl_of c.more, f_len := He.free_ok X G (c.t.d.fact 0 (f := .free "len") rfl), f_min := He.free_ok X G (c.t.d.fact 1 (f := .free "min") rfl), f_max := He.free_ok X G (c.t.d.fact 2 (f := .free "max") rfl), f_range := He.free_ok X G (c.t.d.fact 3 (f := .free "range") rfl), f_repr := He.free_ok X G (c.t.d.fact 4 (f := .free "repr") rfl), g_lead := He.glo_ok X G (c.t.d.fact 5 (f := .glo "lead") rfl), k_lead := He.keep_ok (c.t.d.fact 6 (f := .keep "lead") rfl), g_rename := He.glo_ok X G (c.t.d.fact 7 (f := .glo "rename") rfl), k_rename := He.keep_ok (c.t.d.fact 8 (f := .keep "rename") rfl), g_swallow := He.glo_ok X G (c.t.d.fact 9 (f := .glo "swallow") rfl), k_swallow := He.keep_ok (c.t.d.fact 10 (f := .keep "swallow") rfl), g_retry := He.glo_ok X G (c.t.d.fact 11 (f := .glo "retry") rfl), k_retry := He.keep_ok (c.t.d.fact 12 (f := .keep "retry") rfl), g_breaker := He.glo_ok X G (c.t.d.fact 13 (f := .glo "breaker") rfl), k_breaker := He.keep_ok (c.t.d.fact 14 (f := .keep "breaker") rfl), g_guard := He.glo_ok X G (c.t.d.fact 15 (f := .glo "guard") rfl), k_guard := He.keep_ok (c.t.d.fact 16 (f := .keep "guard") rfl), g_depth := He.glo_ok X G (c.t.d.fact 17 (f := .glo "depth") rfl), k_depth := He.keep_ok (c.t.d.fact 18 (f := .keep "depth") rfl), g_limit := He.glo_ok X G (c.t.d.fact 19 (f := .glo "limit") rfl), k_limit := He.keep_ok (c.t.d.fact 20 (f := .keep "limit") rfl), g_stale := He.glo_ok X G (c.t.d.fact 21 (f := .glo "stale") rfl), k_stale := He.keep_ok (c.t.d.fact 22 (f := .keep "stale") rfl), g_once := He.glo_ok X G (c.t.d.fact 23 (f := .glo "once") rfl), k_once := He.keep_ok (c.t.d.fact 24 (f := .keep "once") rfl), g_cache := He.glo_ok X G (c.t.d.fact 25 (f := .glo "cache") rfl), k_cache := He.keep_ok (c.t.d.fact 26 (f := .keep "cache") rfl), g__law_take := He.glo_ok X G (c.t.d.fact 27 (f := .glo "_law_take") rfl), k__law_take := He.keep_ok (c.t.d.fact 28 (f := .keep "_law_take") rfl), g__law_worth := He.glo_ok X G (c.t.d.fact 29 (f := .glo "_law_worth") rfl), k__law_worth := He.keep_ok (c.t.d.fact 30 (f := .keep "_law_worth") rfl), f_abs := He.free_ok X G (c.t.d.fact 31 (f := .free "abs") rfl), g__law_bag := He.glo_ok X G (c.t.d.fact 32 (f := .glo "_law_bag") rfl), k__law_bag := He.keep_ok (c.t.d.fact 33 (f := .keep "_law_bag") rfl) }
  obtain ⟨fd_lead, D_lead⟩ := c.t.d.def_ 0 (d := d_lead) rfl
  obtain ⟨fd_rename, D_rename⟩ := c.t.d.def_ 1 (d := d_rename) rfl
  obtain ⟨fd_swallow, D_swallow⟩ := c.t.d.def_ 2 (d := d_swallow) rfl
  obtain ⟨fd_retry, D_retry⟩ := c.t.d.def_ 3 (d := d_retry) rfl
  obtain ⟨fd_breaker, D_breaker⟩ := c.t.d.def_ 4 (d := d_breaker) rfl
  obtain ⟨fd_guard, D_guard⟩ := c.t.d.def_ 5 (d := d_guard) rfl
  obtain ⟨fd_depth, D_depth⟩ := c.t.d.def_ 6 (d := d_depth) rfl
  obtain ⟨fd_limit, D_limit⟩ := c.t.d.def_ 7 (d := d_limit) rfl
  obtain ⟨fd_stale, D_stale⟩ := c.t.d.def_ 8 (d := d_stale) rfl
  obtain ⟨fd_once, D_once⟩ := c.t.d.def_ 9 (d := d_once) rfl
  obtain ⟨fd_cache, D_cache⟩ := c.t.d.def_ 10 (d := d_cache) rfl
  obtain ⟨fd__law_take, D__law_take⟩ := c.t.d.def_ 11 (d := d__law_take) rfl
  obtain ⟨fd__law_worth, D__law_worth⟩ := c.t.d.def_ 12 (d := d__law_worth) rfl
  obtain ⟨fd__law_bag, D__law_bag⟩ := c.t.d.def_ 13 (d := d__law_bag) rfl
  obtain ⟨fd_law, D_law⟩ := c.t.d.def_ 14 (d := d_law) rfl
  refine ⟨fd_law, fun base _ _ => ?_⟩
  have K_lead := ok_lead (P := PySem.Challenge.rw_callayers_k02_layers_made.prog) (w := w) (base := base) T D_lead
  have K_rename := ok_rename (P := PySem.Challenge.rw_callayers_k02_layers_made.prog) (w := w) (base := base) T D_rename
  have K_swallow := ok_swallow (P := PySem.Challenge.rw_callayers_k02_layers_made.prog) (w := w) (base := base) T D_swallow
  have K_retry := ok_retry (P := PySem.Challenge.rw_callayers_k02_layers_made.prog) (w := w) (base := base) T D_retry
  have K_breaker := ok_breaker (P := PySem.Challenge.rw_callayers_k02_layers_made.prog) (w := w) (base := base) T D_breaker
  have K_guard := ok_guard (P := PySem.Challenge.rw_callayers_k02_layers_made.prog) (w := w) (base := base) T D_guard
  have K_depth := ok_depth (P := PySem.Challenge.rw_callayers_k02_layers_made.prog) (w := w) (base := base) T D_depth
  have K_limit := ok_limit (P := PySem.Challenge.rw_callayers_k02_layers_made.prog) (w := w) (base := base) T D_limit
  have K_stale := ok_stale (P := PySem.Challenge.rw_callayers_k02_layers_made.prog) (w := w) (base := base) T D_stale
  have K_once := ok_once (P := PySem.Challenge.rw_callayers_k02_layers_made.prog) (w := w) (base := base) T D_once
  have K_cache := ok_cache (P := PySem.Challenge.rw_callayers_k02_layers_made.prog) (w := w) (base := base) T D_cache
  have K__law_take := ok__law_take (P := PySem.Challenge.rw_callayers_k02_layers_made.prog) (w := w) (base := base) T D__law_take
  have K__law_worth := ok__law_worth (P := PySem.Challenge.rw_callayers_k02_layers_made.prog) (w := w) (base := base) T D__law_worth K__law_take (ab__law_take_2 D__law_take)
  have K__law_bag := ok__law_bag (P := PySem.Challenge.rw_callayers_k02_layers_made.prog) (w := w) (base := base) T D__law_bag
  have K_law := ok_law (P := PySem.Challenge.rw_callayers_k02_layers_made.prog) (w := w) (base := base) T D_law K_lead (ab_lead_0 D_lead) (ab_lead_2 D_lead) (ab_lead_1 D_lead) K_rename (ab_rename_0_other_kind D_rename) (ab_rename_2 D_rename) K_swallow (ab_swallow_0_value D_swallow) (ab_swallow_3 D_swallow) (ab_swallow_2 D_swallow) K_retry (ab_retry_0_n D_retry) (ab_retry_1 D_retry) (ab_retry_3 D_retry) (ab_retry_2 D_retry) K_breaker (ab_breaker_0_m_kind_n D_breaker) (ab_breaker_2_kind D_breaker) (ab_breaker_2 D_breaker) K_guard (ab_guard_0_kind D_guard) (ab_guard_0 D_guard) K_depth (ab_depth_0_kind_n D_depth) (ab_depth_1 D_depth) K_limit (ab_limit_0_n_kind D_limit) (ab_limit_1_kind D_limit) (ab_limit_1 D_limit) K_stale (ab_stale_0 D_stale) (ab_stale_2 D_stale) (ab_stale_1 D_stale) K_once (ab_once_0 D_once) K_cache (ab_cache_0 D_cache) K__law_worth (ab__law_worth_1 D__law_worth) K__law_bag (ab__law_bag_2 D__law_bag)
  exact ⟨K_law, ab_law_1 D_law⟩
end LW
set_option Elab.async false
set_option linter.all false
set_option maxRecDepth 100000
set_option maxHeartbeats 4000000
namespace LW
open PySem PySem.Spec Br
/-- a bag's list -/
def bag (a b c : Int) : MO := .lst [.int a, .int b, .int c]
theorem take_ok {M : Mem} {n : Nat} {a b c m : Int} (h : M[n]? = some (bag a b c)) (ha : 0 ≤ a) (hb : 0 ≤ b) (hb2 : b < 2 ^ 61) (hc : 0 ≤ c) (hc2 : c < 2 ^ 31) (hm : 0 < m) (hm2 : m < 2 ^ 40) :
    ∃ d a' c' : Int, 0 ≤ d ∧ d < m ∧ 0 ≤ a' ∧ 0 ≤ c' ∧ c' ≤ c + 1 ∧ m__law_take [.ref n, .int m] M = .ok (.int d) (M.set n (bag a' b c')) := by
  have hn : n < M.length := (List.getElem?_eq_some_iff.mp h).1
  unfold bag at h
  have hm3 : m < 18446744073709551616 := by omega
  by_cases h0 : 0 < a
  · refine ⟨a % m, a / m, c, Int.emod_nonneg _ (by omega), Int.emod_lt_of_pos _ hm, Int.ediv_nonneg ha (by omega), hc, by omega, ?_⟩
    unfold m__law_take b__law_take bag
    simp [Br.run, st0, sSeq, sIf, sAsg, sAsgT, gSb, sPar, sDrop, eAppend, eK, Br.tC, tT, truD, e1, e2, eL, aC, aN, eV, eC, eIf, gIx, seqA, seqL, L2.atI, L2.ixN, gGt, gLt, gGe, gLe, gI, gMod, gN, gFdiv, gAdd, gSub, gMul', gMul, gPow, gNeg, gAbs, gLen, gMax, gMin, setD, sRet, SR.then, SR.val, R.bind, SR.of, sNx, gCall, gTup, gLst, gNew, gAppend, gCatN, gCatV, pk, sizeLine, h, h0, hm, hm3]
  · have hmul : ∀ j : Int, mulOk 1000033 j = true := fun j => mulOk_l (by decide) (by decide)
    have hmul2 : ∀ j : Int, mulOk 15485917 j = true := fun j => mulOk_l (by decide) (by decide)
    have hp1 : (b + 1000033 * (c + 1)).natAbs < 1606938044258990275541962092341162602522202993782792835301376 := by omega
    have hr0 : 0 ≤ (b + 1000033 * (c + 1)) ^ 3 % 2305843009213693921 := Int.emod_nonneg _ (by decide)
    have hr1 : (b + 1000033 * (c + 1)) ^ 3 % 2305843009213693921 < 2305843009213693921 := Int.emod_lt_of_pos _ (by decide)
    have hp2 : ((b + 1000033 * (c + 1)) ^ 3 % 2305843009213693921 + 15485917 * (c + 1)).natAbs < 1606938044258990275541962092341162602522202993782792835301376 := by omega
    refine ⟨((b + 1000033 * (c + 1)) ^ 3 % 2305843009213693921 + 15485917 * (c + 1)) ^ 2 % 2305843009213693951 / 2048 % m, a, c + 1, Int.emod_nonneg _ (by omega), Int.emod_lt_of_pos _ hm, ha, by omega, by omega, ?_⟩
    have hs : (M.set n (MO.lst [D.int a, D.int b, D.int (c + 1)]))[n]? = some (MO.lst [D.int a, D.int b, D.int (c + 1)]) := by simp [hn]
    unfold m__law_take b__law_take bag
    simp [Br.run, st0, sSeq, sIf, sAsg, sAsgT, gSb, sPar, sDrop, eAppend, eK, Br.tC, tT, truD, e1, e2, eL, aC, aN, eV, eC, eIf, gIx, seqA, seqL, L2.atI, L2.ixN, gGt, gLt, gGe, gLe, gI, gMod, gN, gFdiv, gAdd, gSub, gMul', gMul, gPow, gNeg, gAbs, gLen, gMax, gMin, setD, sRet, SR.then, SR.val, R.bind, SR.of, sNx, gCall, gTup, gLst, gNew, gAppend, gCatN, gCatV, pk, sizeLine, h, h0, hm, hm3, hs, hmul, hmul2, hp1, hp2]
/-- a bag with bounds -/
structure Bag (M : Mem) (n : Nat) (b c : Int) : Prop where
  lt : n < M.length
  at_ : ∃ a c', M[n]? = some (bag a b c') ∧ 0 ≤ a ∧ 0 ≤ c' ∧ c' ≤ c
  b0 : 0 ≤ b
  b1 : b < 2 ^ 61
theorem Bag.take {M : Mem} {n : Nat} {b c m : Int} (h : Bag M n b c) (hc2 : c < 2 ^ 31) (hm : 0 < m) (hm2 : m < 2 ^ 40) :
    ∃ (d : Int) (M' : Mem), 0 ≤ d ∧ d < m ∧ m__law_take [.ref n, .int m] M = .ok (.int d) M' ∧ M'.length = M.length ∧ (∀ i, i ≠ n → M'[i]? = M[i]?) ∧ Bag M' n b (c + 1) := by
  obtain ⟨a, c', h1, h2, h3, h4⟩ := h.at_
  obtain ⟨d, a', c'', g1, g2, g3, g4, g5, g6⟩ := take_ok h1 h2 h.b0 h.b1 h3 (by omega) hm hm2
  have hl := h.lt
  exact ⟨d, _, g1, g2, g6, List.length_set .., fun i hi => List.getElem?_set_ne fun e => hi e.symm, ⟨by rw [List.length_set]; exact h.lt, ⟨a', c'', by simp [h.lt], g3, g4, by omega⟩, h.b0, h.b1⟩⟩
/-- the values -/
def vals : List D := [.int 0, .int 1, .int 2, .int 3, .int (-1), .bl true, .non, .str "x", .tup [.int 0], .lst [.int 1]]
theorem Bag.worth {M : Mem} {n : Nat} {b c : Int} (h : Bag M n b c) (hc2 : c < 2 ^ 31) :
    ∃ (d : D) (M' : Mem), d ∈ vals ∧ m__law_worth [.ref n] M = .ok d M' ∧ M'.length = M.length ∧ (∀ i, i ≠ n → M'[i]? = M[i]?) ∧ Bag M' n b (c + 1) := by
  obtain ⟨d, M', h1, h2, h3, h4, h5, h6⟩ := h.take hc2 (m := 10) (by decide) (by decide)
  have hd : d = 0 ∨ d = 1 ∨ d = 2 ∨ d = 3 ∨ d = 4 ∨ d = 5 ∨ d = 6 ∨ d = 7 ∨ d = 8 ∨ d = 9 := by omega
  have key : ∀ (j : Nat), j < 10 → d = (j : Int) → m__law_worth [.ref n] M = .ok (vals[j]?.getD .non) M' := fun j hj e => by
    subst e
    unfold m__law_worth b__law_worth
    rcases hd with hd | hd | hd | hd | hd | hd | hd | hd | hd | hd <;> (rw [hd] at h3; simp [Br.run, st0, sSeq, sIf, sAsg, sAsgT, gSb, sPar, sDrop, eAppend, eK, Br.tC, tT, truD, e1, e2, eL, aC, aN, eV, eC, eIf, gIx, seqA, seqL, L2.atI, L2.ixN, gGt, gLt, gGe, gLe, gI, gMod, gN, gFdiv, gAdd, gSub, gMul', gMul, gPow, gNeg, gAbs, gLen, gMax, gMin, setD, sRet, SR.then, SR.val, R.bind, SR.of, sNx, gCall, gTup, gLst, gNew, gAppend, gCatN, gCatV, pk, sizeLine, h3, vals, show j = _ from Int.ofNat.inj hd])
  obtain ⟨j, hj, e⟩ : ∃ j : Nat, j < 10 ∧ d = (j : Int) := ⟨d.toNat, by omega, by omega⟩
  refine ⟨vals[j]?.getD .non, M', ?_, key j hj e, h4, h5, h6⟩
  have : ∀ j : Fin 10, (vals[j.1]?.getD .non) ∈ vals := fun j => by
    have hl : j.1 < vals.length := j.2
    rw [List.getElem?_eq_getElem hl]; exact List.getElem_mem hl
  exact this ⟨j, hj⟩
theorem go_step {a b : FStm} {ρ ρ1 : En} {M M1 : Mem} {r : SR} (h : a ρ M = .go .nx ρ1 M1) (k : b ρ1 M1 = r) : sSeq a b ρ M = r := by
  unfold sSeq; rw [h]; exact k
theorem run_go {b : FStm} {n : Nat} {ds : List D} {M M1 : Mem} {ρ1 : En} {d : D} (h : b (st0 n ds) M = .go (.ret d) ρ1 M1) : Br.run b n ds M = .ok d M1 := by
  unfold Br.run; rw [h]; rfl
theorem asg_ok {a : FE} {k : Nat} {ρ : En} {M M1 : Mem} {d : D} (h : a ρ M = .ok d M1) : sAsg a (gN k) ρ M = .go .nx (ρ.set k (some d)) M1 := by
  unfold sAsg; rw [h]; rfl
/-- a new bag -/
theorem bag_new (ns : List Int) (M : Mem) (i : Nat) (hi : i < 64) : ∃ b M', m__law_bag [scriptD ns, .int i] M = .ok (.ref M.length) M' ∧ M'.length = M.length + 1 ∧ (∀ j, j < M.length → M'[j]? = M[j]?) ∧ Bag M' M.length b 0 := by
  have hm : ∀ x : Int, mulOk x 5103497 = true := fun x => mulOk_r (by decide) (by decide)
  have hm2 : ∀ x : Int, mulOk 8221 x = true := fun x => mulOk_l (by decide) (by decide)
  have key : ∃ (a : Int) (b : Int), 0 ≤ a ∧ 0 ≤ b ∧ b < 2 ^ 61 ∧ m__law_bag [scriptD ns, .int i] M = .ok (.ref M.length) (M ++ [bag a b 0]) := by
    obtain ⟨x, hx⟩ : ∃ x : Int, (eIf (Br.tC (Br.e2 gLt (eV 1) (eL gLen (aC (eV 0) aN)))) (Br.e2 gIx (eV 0) (eV 1)) (eC (D.int 0))) [some (scriptD ns), some (.int i), none, none] M = .ok (.int x) M := by
      by_cases hl : i < ns.length
      · exact ⟨ns[i], by simp [Br.run, st0, sSeq, sIf, sAsg, sAsgT, gSb, sPar, sDrop, eAppend, eK, Br.tC, tT, truD, e1, e2, eL, aC, aN, eV, eC, eIf, gIx, seqA, seqL, L2.atI, L2.ixN, gGt, gLt, gGe, gLe, gI, gMod, gN, gFdiv, gAdd, gSub, gMul', gMul, gPow, gNeg, gAbs, gLen, gMax, gMin, setD, sRet, SR.then, SR.val, R.bind, SR.of, sNx, gCall, gTup, gLst, gNew, gAppend, gCatN, gCatV, pk, sizeLine, hl, scriptD]⟩
      · exact ⟨0, by simp [Br.run, st0, sSeq, sIf, sAsg, sAsgT, gSb, sPar, sDrop, eAppend, eK, Br.tC, tT, truD, e1, e2, eL, aC, aN, eV, eC, eIf, gIx, seqA, seqL, L2.atI, L2.ixN, gGt, gLt, gGe, gLe, gI, gMod, gN, gFdiv, gAdd, gSub, gMul', gMul, gPow, gNeg, gAbs, gLen, gMax, gMin, setD, sRet, SR.then, SR.val, R.bind, SR.of, sNx, gCall, gTup, gLst, gNew, gAppend, gCatN, gCatV, pk, sizeLine, hl, scriptD]⟩
    have hy : ∃ y : Int, 0 ≤ y ∧ (eIf (Br.tC (Br.e2 gGe (eL gAbs (aC (eV 2) aN)) (Br.e2 gPow (eC (D.int 10)) (eC (D.int 18))))) (eL gAbs (aC (eV 2) aN)) (eC (D.int 0))) [some (scriptD ns), some (.int i), some (.int x), none] M = .ok (.int y) M := by
      by_cases hl : (1000000000000000000 : Int) ≤ (if x < 0 then -x else x)
      · exact ⟨if x < 0 then -x else x, by split <;> omega, by simp [Br.run, st0, sSeq, sIf, sAsg, sAsgT, gSb, sPar, sDrop, eAppend, eK, Br.tC, tT, truD, e1, e2, eL, aC, aN, eV, eC, eIf, gIx, seqA, seqL, L2.atI, L2.ixN, gGt, gLt, gGe, gLe, gI, gMod, gN, gFdiv, gAdd, gSub, gMul', gMul, gPow, gNeg, gAbs, gLen, gMax, gMin, setD, sRet, SR.then, SR.val, R.bind, SR.of, sNx, gCall, gTup, gLst, gNew, gAppend, gCatN, gCatV, pk, sizeLine, hl]⟩
      · exact ⟨0, by omega, by simp [Br.run, st0, sSeq, sIf, sAsg, sAsgT, gSb, sPar, sDrop, eAppend, eK, Br.tC, tT, truD, e1, e2, eL, aC, aN, eV, eC, eIf, gIx, seqA, seqL, L2.atI, L2.ixN, gGt, gLt, gGe, gLe, gI, gMod, gN, gFdiv, gAdd, gSub, gMul', gMul, gPow, gNeg, gAbs, gLen, gMax, gMin, setD, sRet, SR.then, SR.val, R.bind, SR.of, sNx, gCall, gTup, gLst, gNew, gAppend, gCatN, gCatV, pk, sizeLine, hl]⟩
    obtain ⟨y, hy0, hy⟩ := hy
    refine ⟨y, (x % 2305843009213693951 + 8221 * i + 7) * 5103497 % 2305843009213693951, hy0, Int.emod_nonneg _ (by decide), Int.lt_of_lt_of_le (Int.emod_lt_of_pos _ (by decide)) (by decide), ?_⟩
    unfold m__law_bag
    refine run_go (ρ1 := [some (scriptD ns), some (.int i), some (.int x), some (.int y)]) ?_
    unfold b__law_bag
    refine go_step (asg_ok hx) ?_
    refine go_step (asg_ok hy) ?_
    simp [Br.run, st0, sSeq, sIf, sAsg, sAsgT, gSb, sPar, sDrop, eAppend, eK, Br.tC, tT, truD, e1, e2, eL, aC, aN, eV, eC, eIf, gIx, seqA, seqL, L2.atI, L2.ixN, gGt, gLt, gGe, gLe, gI, gMod, gN, gFdiv, gAdd, gSub, gMul', gMul, gPow, gNeg, gAbs, gLen, gMax, gMin, setD, sRet, SR.then, SR.val, R.bind, SR.of, sNx, gCall, gTup, gLst, gNew, gAppend, gCatN, gCatV, pk, sizeLine, hm, hm2, bag]
  obtain ⟨a, b, h1, h2, h3, e⟩ := key
  exact ⟨b, _, e, by simp, fun j hj => List.getElem?_append_left hj, ⟨by simp, ⟨a, 0, by simp, h1, by omega, by omega⟩, h2, h3⟩⟩
theorem par3 {fa fb fc : FE} {i j k : Nat} {ρ : En} {M M1 M2 M3 : Mem} {x y z : D} (h1 : fa ρ M = .ok x M1) (h2 : fb ρ M1 = .ok y M2) (h3 : fc ρ M2 = .ok z M3) :
    sPar [i, j, k] (aC fa (aC fb (aC fc aN))) ρ M = .go .nx (((ρ.set i (some x)).set j (some y)).set k (some z)) M3 := by
  simp [sPar, aC, h1, h2, h3, R.bind, aN, SR.of]
theorem catN_go {fa fb : FE} {k : Nat} {ρ : En} {M : Mem} {x y : D} {xs ys : List D} (ha : fa ρ M = .ok x M) (hb : fb ρ M = .ok y M) (hx : seqL M x = some xs) (hy : seqL M y = some ys) (hl : xs.length + ys.length ≤ sizeLine) :
    sAsg (Br.e2 gCatN fa fb) (gN k) ρ M = .go .nx (ρ.set k (some (.ref M.length))) (M ++ [.lst (xs ++ ys)]) := by
  unfold sAsg Br.e2; rw [ha]; dsimp only [R.bind]; rw [hb]; dsimp only; unfold gCatN; rw [hx, hy]; dsimp only; rw [if_pos hl]; rfl
theorem catV_go {fa fb : FE} {k : Nat} {ρ : En} {M : Mem} {x y : D} {xs ys : List D} (ha : fa ρ M = .ok x M) (hb : fb ρ M = .ok y M) (hx : seqL M x = some xs) (hy : seqL M y = some ys) (hl : xs.length + ys.length ≤ sizeLine) :
    sAsg (Br.e2 gCatV fa fb) (gN k) ρ M = .go .nx (ρ.set k (some (.lst (xs ++ ys)))) M := by
  unfold sAsg Br.e2; rw [ha]; dsimp only [R.bind]; rw [hb]; dsimp only; unfold gCatV; rw [hx, hy]; dsimp only; rw [if_pos hl]; rfl
theorem app_go {fo : FE} {g : FA} {ρ : En} {M : Mem} {n : Nat} {d : D} {xs : List D} (ho : fo ρ M = .ok (.ref n) M) (hg : g ρ M = .ok [d] M) (hn : M[n]? = some (.lst xs)) (hl : xs.length < sizeLine) :
    sDrop (eAppend fo g) ρ M = .go .nx ρ (M.set n (.lst (xs ++ [d]))) := by
  unfold sDrop eAppend; rw [ho]; dsimp only [R.bind]; rw [hg]; dsimp only; simp [hn, hl, SR.of, gAppend]
theorem ifrep_go {fa fb : FE} {a b : FStm} {ρ : En} {M : Mem} {d : D} {s : Str} {r : SR} (ha : fa ρ M = .ok d M) (hb : fb ρ M = .ok d M) (hs : gRepr [d] M = .ok (.str s) M) (hr : b ρ M = r) :
    sIf (Br.tC (Br.e2 gNe (eL gRepr (aC fa aN)) (eL gRepr (aC fb aN)))) a b ρ M = r := by
  rw [← hr]
  simp [sIf, Br.tC, Br.e2, eL, aC, aN, ha, hb, hs, R.bind, gNe, eqD, SR.of]
theorem Bag.keep {M M' : Mem} {n : Nat} {b c : Int} (h : Bag M n b c) (e : M'[n]? = M[n]?) : Bag M' n b c := by
  obtain ⟨a, c', h1, h2, h3, h4⟩ := h.at_
  exact ⟨(List.getElem?_eq_some_iff.mp (e.trans h1)).1, ⟨a, c', e.trans h1, h2, h3, h4⟩, h.b0, h.b1⟩
def lawT (a b c : D) : List D := [.tup [.str "cache"], .tup [.str "once"], .tup [.str "stale", .tup [a]], .tup [.str "stale", .tup [a, b]], .tup [.str "stale", .tup []],
  .tup [.str "limit", a, .int 0], .tup [.str "limit", a, b], .tup [.str "limit", a, b],
  .tup [.str "depth", a, .int 0], .tup [.str "depth", a, b], .tup [.str "guard", .int 0], .tup [.str "guard", a],
  .tup [.str "breaker", a, b, .int 0], .tup [.str "breaker", a, b, c], .tup [.str "breaker", a, b, c],
  .tup [.str "retry", a, .tup [b]], .tup [.str "retry", a, .tup [b, c]], .tup [.str "retry", a, .tup []], .tup [.str "retry", a, .tup []],
  .tup [.str "swallow", a, .tup [b]], .tup [.str "swallow", a, .tup [b, c]], .tup [.str "swallow", a, .tup []],
  .tup [.str "rename", a, b], .tup [.str "rename", a, b],
  .tup [.str "lead", .tup [a]], .tup [.str "lead", .tup [a, b]], .tup [.str "lead", .tup []]]
theorem lawT_ok : ∀ a ∈ vals, ∀ b ∈ vals, ∀ c ∈ vals, okp (.lst (lawT a b c)) = true := by
  have h : (vals.all fun a => vals.all fun b => vals.all fun c => okp (.lst (lawT a b c))) = true := by decide +kernel
  intro a ha b hb c hc
  exact List.all_eq_true.mp (List.all_eq_true.mp (List.all_eq_true.mp h a ha) b hb) c hc
end LW
set_option Elab.async false
set_option linter.all false
set_option maxRecDepth 100000
set_option maxHeartbeats 4000000
namespace LW
open PySem PySem.Spec Br
def F1 (a b c : D) : List D := [D.tup [D.str "cache"], D.tup [D.str "once"], D.tup [D.str "stale", D.tup [a]], D.tup [D.str "stale", D.tup [a, b]], D.tup [D.str "stale", D.tup []],
  D.tup [D.str "limit", a, D.int 0], D.tup [D.str "limit", a, b], D.tup [D.str "limit", a, b],
  D.tup [D.str "depth", a, D.int 0], D.tup [D.str "depth", a, b], D.tup [D.str "guard", D.int 0], D.tup [D.str "guard", a]]
def F2' (a b c : D) : List D := [D.tup [D.str "cache"], D.tup [D.str "once"], D.tup [D.str "stale", D.tup [a]], D.tup [D.str "stale", D.tup [a, b]], D.tup [D.str "stale", D.tup []],
  D.tup [D.str "limit", a, D.int 0], D.tup [D.str "limit", a, b], D.tup [D.str "limit", a, b],
  D.tup [D.str "depth", a, D.int 0], D.tup [D.str "depth", a, b], D.tup [D.str "guard", D.int 0], D.tup [D.str "guard", a], D.tup [D.str "breaker", a, b, D.int 0], D.tup [D.str "breaker", a, b, c], D.tup [D.str "breaker", a, b, c]]
def F3 (a b c : D) : List D := [D.tup [D.str "cache"], D.tup [D.str "once"], D.tup [D.str "stale", D.tup [a]], D.tup [D.str "stale", D.tup [a, b]], D.tup [D.str "stale", D.tup []],
  D.tup [D.str "limit", a, D.int 0], D.tup [D.str "limit", a, b], D.tup [D.str "limit", a, b],
  D.tup [D.str "depth", a, D.int 0], D.tup [D.str "depth", a, b], D.tup [D.str "guard", D.int 0], D.tup [D.str "guard", a], D.tup [D.str "breaker", a, b, D.int 0], D.tup [D.str "breaker", a, b, c], D.tup [D.str "breaker", a, b, c], D.tup [D.str "retry", a, D.tup [b]], D.tup [D.str "retry", a, D.tup [b, c]], D.tup [D.str "retry", a, D.tup []], D.tup [D.str "retry", a, D.tup []],
  D.tup [D.str "swallow", a, D.tup [b]], D.tup [D.str "swallow", a, D.tup [b, c]], D.tup [D.str "swallow", a, D.tup []]]
theorem ch3 {S A N o3 : Option D} {x y z : D} {M : Mem} (hx : x ∈ vals) (hy : y ∈ vals) (hz : z ∈ vals) :
    l0_law [S, A, N, o3, some x, some y, some z, some (.lst (F3 x y z)), some (.lst (F3 x y z))] M = .go .nx [S, A, N, o3, some x, some y, some z, some (.lst (lawT x y z)), some (.lst (lawT x y z))] M := by
  unfold l0_law
  refine go_step rfl ?_
  refine go_step rfl ?_
  refine go_step rfl ?_
  refine go_step rfl ?_
  exact ifrep_go (d := .lst (lawT x y z)) rfl rfl (gRepr_ok (lawT_ok x hx y hy z hz) _).choose_spec rfl
theorem ch2 {S A N o3 : Option D} {x y z : D} {M : Mem} {p q : Nat} (hx : x ∈ vals) (hy : y ∈ vals) (hz : z ∈ vals) (hp : seqL M (.ref p) = some (F2' x y z)) (hq : seqL M (.ref q) = some (F2' x y z)) :
    l1_law [S, A, N, o3, some x, some y, some z, some (.ref p), some (.ref q)] M = .go .nx [S, A, N, o3, some x, some y, some z, some (.lst (lawT x y z)), some (.lst (lawT x y z))] M := by
  unfold l1_law
  refine go_step (catV_go rfl rfl hp rfl (Nat.le_of_ble_eq_true rfl)) ?_
  refine go_step (catV_go rfl rfl hq rfl (Nat.le_of_ble_eq_true rfl)) ?_
  refine go_step rfl ?_
  refine go_step rfl ?_
  exact ch3 hx hy hz
theorem seqL_at {M : Mem} {p : Nat} {l : List D} (h : M[p]? = some (MO.lst l)) : seqL M (.ref p) = some l := by unfold seqL; dsimp only; rw [h]
theorem ch1 {S A N o3 : Option D} {x y z : D} {M : Mem} (hx : x ∈ vals) (hy : y ∈ vals) (hz : z ∈ vals) :
    ∃ M', (∀ i, i < M.length → M'[i]? = M[i]?) ∧ l2_law [S, A, N, o3, some x, some y, some z, some (.lst (F1 x y z)), some (.lst (F1 x y z))] M = .go .nx [S, A, N, o3, some x, some y, some z, some (.lst (lawT x y z)), some (.lst (lawT x y z))] M' := by
  obtain ⟨P, hP⟩ : ∃ P, P = F1 x y z ++ [D.tup [D.str "breaker", x, y, D.int 0], D.tup [D.str "breaker", x, y, z]] := ⟨_, rfl⟩
  have hl : P.length = 14 := by rw [hP]; rfl
  have hP2 : P ++ [D.tup [D.str "breaker", x, y, z]] = F2' x y z := by rw [hP]; rfl
  refine ⟨((M ++ [MO.lst P] ++ [MO.lst P]).set M.length (MO.lst (F2' x y z))).set (M.length + 1) (MO.lst (F2' x y z)), fun i hi => ?_, ?_⟩
  · rw [List.getElem?_set_ne (by omega), List.getElem?_set_ne (by omega), List.getElem?_append_left (by simp; omega), List.getElem?_append_left hi]
  unfold l2_law
  refine go_step (M1 := M ++ [MO.lst P]) (ρ1 := [S, A, N, o3, some x, some y, some z, some (.ref M.length), some (.lst (F1 x y z))]) (by rw [hP]; exact catN_go rfl rfl rfl rfl (Nat.le_of_ble_eq_true rfl)) ?_
  refine go_step (M1 := M ++ [MO.lst P] ++ [MO.lst P]) (ρ1 := [S, A, N, o3, some x, some y, some z, some (.ref M.length), some (.ref (M.length + 1))]) (by
    have e : (M ++ [MO.lst P]).length = M.length + 1 := by simp
    rw [← e, hP]; exact catN_go rfl rfl rfl rfl (Nat.le_of_ble_eq_true rfl)) ?_
  refine go_step (M1 := (M ++ [MO.lst P] ++ [MO.lst P]).set M.length (MO.lst (F2' x y z))) (ρ1 := [S, A, N, o3, some x, some y, some z, some (.ref M.length), some (.ref (M.length + 1))]) (by
    rw [← hP2]; exact app_go rfl rfl (by simp) (by rw [hl]; decide)) ?_
  refine go_step (M1 := ((M ++ [MO.lst P] ++ [MO.lst P]).set M.length (MO.lst (F2' x y z))).set (M.length + 1) (MO.lst (F2' x y z))) (ρ1 := [S, A, N, o3, some x, some y, some z, some (.ref M.length), some (.ref (M.length + 1))]) (by
    rw [← hP2]; exact app_go rfl rfl (by simp) (by rw [hl]; decide)) ?_
  exact ch2 hx hy hz (seqL_at (by simp)) (seqL_at (by simp))
/-- one turn -/
theorem turn_ok {ns : List Int} {at_ : Int} {n : Nat} {b c : Int} {M : Mem} {o3 o4 o5 o6 o7 o8 : Option D} (h : Bag M n b c) (hc : c < 2 ^ 30) :
    ∃ p4 p5 p6 p7 p8 M', l3_law [some (scriptD ns), some (.int at_), some (.ref n), o3, o4, o5, o6, o7, o8] M = .go .nx [some (scriptD ns), some (.int at_), some (.ref n), o3, p4, p5, p6, p7, p8] M' ∧ Bag M' n b (c + 3) := by
  obtain ⟨x, M1, hx, e1, _, _, B1⟩ := h.worth (by omega)
  obtain ⟨y, M2, hy, e2, _, _, B2⟩ := B1.worth (by omega)
  obtain ⟨z, M3, hz, e3, _, _, B3⟩ := B2.worth (by omega)
  obtain ⟨M', k1, k2⟩ := ch1 (S := some (scriptD ns)) (A := some (.int at_)) (N := some (.ref n)) (o3 := o3) (M := M3) hx hy hz
  refine ⟨some x, some y, some z, some (.lst (lawT x y z)), some (.lst (lawT x y z)), M', ?_, ?_⟩
  · unfold l3_law
    refine go_step (par3 (x := x) (y := y) (z := z) (M1 := M1) (M2 := M2) (M3 := M3) e1 e2 e3) ?_
    refine go_step rfl ?_
    refine go_step rfl ?_
    refine go_step rfl ?_
    refine go_step rfl ?_
    refine go_step rfl ?_
    refine go_step rfl ?_
    exact k2
  · have e : c + 3 = c + 1 + 1 + 1 := by omega
    rw [e]
    exact B3.keep (k1 _ B3.lt)
end LW
set_option Elab.async false
set_option linter.all false
set_option maxRecDepth 100000
set_option maxHeartbeats 4000000
namespace LW
open PySem PySem.Spec Br
theorem for_ok {m : Nat} {fw : En → Mem → R Wk} {gg : FG} {b : FStm} {ρ ρ1 : En} {M M1 M2 : Mem} {l : List D} (h : fw ρ M = .ok (.items l) M1) (h2 : sFor gg b l ρ M1 = .go .nx ρ1 M2) : sForE m fw gg b ρ M = .go .nx ρ1 M2 := by
  unfold sForE; rw [h]; exact h2
theorem aC1_ok {fa : FE} {ρ : En} {M M1 : Mem} {x : D} (h : fa ρ M = .ok x M1) : aC fa aN ρ M = .ok [x] M1 := by
  unfold aC; rw [h]; rfl
theorem rng1_ok {g : FA} {ρ : En} {M M1 : Mem} {j : Int} (h : g ρ M = .ok [.int j] M1) (h1 : 0 ≤ j) (h2 : j < 2 ^ 62) : wRng1 g ρ M = .ok (.items (rangeD 0 j.toNat)) M1 := by
  unfold wRng1; rw [h]; dsimp only [R.bind]; rw [if_pos ⟨by omega, h2⟩]
theorem rangeD_at {n i : Nat} {x : D} (h : (rangeD 0 n)[i]? = some x) : i < n ∧ x = .int i := by
  unfold rangeD at h
  rw [List.getElem?_map] at h
  cases e : (List.range n)[i]? with
  | none => rw [e] at h; cases h
  | some j =>
    rw [e] at h
    obtain ⟨h1, h2⟩ := List.getElem?_eq_some_iff.mp e
    rw [List.getElem_range] at h2
    rw [List.length_range] at h1
    subst h2
    cases h
    exact ⟨h1, by simp⟩
theorem plain (ns : List Int) (hns : ns.length ≤ 63) : ∃ M, m_law [scriptD ns] [] = .ok (.bl true) M := by
  let I : Nat → En → Mem → Prop := fun _ ρ _ => ∃ o1 o2 o3 o4 o5 o6 o7 o8, ρ = [some (scriptD ns), o1, o2, o3, o4, o5, o6, o7, o8]
  obtain ⟨k, hk, hr⟩ : ∃ k : Nat, k ≤ 6 ∧ (wRng1 (aC (eL gMax (aC (eC (D.int 2)) (aC (eL gMin (aC (eC (D.int 6)) (aC (eL gLen (aC (eV 0) aN)) aN))) aN))) aN)) [some (scriptD ns), none, none, none, none, none, none, none, none] [] = .ok (.items (rangeD 0 k)) [] := by
    have h0 : (eL gMax (aC (eC (D.int 2)) (aC (eL gMin (aC (eC (D.int 6)) (aC (eL gLen (aC (eV 0) aN)) aN))) aN))) [some (scriptD ns), none, none, none, none, none, none, none, none] [] = .ok (.int ((max 2 (min 6 ns.length) : Nat) : Int)) [] := by
      simp [Br.run, st0, sSeq, sIf, sAsg, sAsgT, gSb, sPar, sDrop, eAppend, eK, Br.tC, tT, truD, e1, e2, eL, aC, aN, eV, eC, eIf, gIx, seqA, seqL, L2.atI, L2.ixN, gGt, gLt, gGe, gLe, gI, gMod, gN, gFdiv, gAdd, gSub, gMul', gMul, gPow, gNeg, gAbs, gLen, gMax, gMin, setD, sRet, SR.then, SR.val, R.bind, SR.of, sNx, gCall, gTup, gLst, gNew, gAppend, gCatN, gCatV, pk, sizeLine, scriptD]
      split <;> omega
    refine ⟨max 2 (min 6 ns.length), by omega, ?_⟩
    exact (rng1_ok (aC1_ok h0) (by omega) (by omega)).trans (by rw [Int.toNat_natCast])
  obtain ⟨ρ', M', h1, h2⟩ := sFor_at (gg := gN 1) (b := l4_law) I (rangeD 0 k) (rangeD 0 k) 0 [some (scriptD ns), none, none, none, none, none, none, none, none] [] rfl ⟨_, _, _, _, _, _, _, _, rfl⟩ (by
    rintro x i ρ M hx ⟨o1, o2, o3, o4, o5, o6, o7, o8, rfl⟩
    obtain ⟨hi, rfl⟩ := rangeD_at hx
    obtain ⟨b, M1, g1, g2, g3, B⟩ := bag_new ns M i (by omega)
    let J : Nat → En → Mem → Prop := fun t ρ M2 => ∃ p3 p4 p5 p6 p7 p8, ρ = [some (scriptD ns), some (.int i), some (.ref M.length), p3, p4, p5, p6, p7, p8] ∧ Bag M2 M.length b (3 * t)
    obtain ⟨ρ2, M2, j1, j2⟩ := sFor_at (gg := gN 3) (b := l3_law) J (rangeD 0 6) (rangeD 0 6) 0 [some (scriptD ns), some (.int i), some (.ref M.length), o3, o4, o5, o6, o7, o8] M1 rfl ⟨_, _, _, _, _, _, rfl, B⟩ (by
      rintro y t ρ M3 hy ⟨p3, p4, p5, p6, p7, p8, rfl, B3⟩
      obtain ⟨ht, rfl⟩ := rangeD_at hy
      obtain ⟨q4, q5, q6, q7, q8, M4, e, B4⟩ := turn_ok (ns := ns) (at_ := i) (o3 := some (D.int t)) (o4 := p4) (o5 := p5) (o6 := p6) (o7 := p7) (o8 := p8) B3 (by omega)
      exact ⟨_, _, _, _, rfl, e, _, _, _, _, _, _, rfl, by have z : (3 * ((t + 1 : Nat) : Int)) = 3 * t + 3 := by omega
                                                           rw [z]; exact B4⟩)
    obtain ⟨p3, p4, p5, p6, p7, p8, rfl, _⟩ := j2
    refine ⟨[some (scriptD ns), some (.int i), o2, o3, o4, o5, o6, o7, o8], M, [some (scriptD ns), some (.int i), some (.ref M.length), p3, p4, p5, p6, p7, p8], M2, rfl, ?_, _, _, _, _, _, _, _, _, rfl⟩
    · unfold l4_law
      refine go_step (asg_ok (d := .ref M.length) (M1 := M1) ?_) ?_
      · simp [eL, gCall, aC, aN, eV, R.bind, g1]
      · exact for_ok (l := rangeD 0 6) rfl j1)
  obtain ⟨o1, o2, o3, o4, o5, o6, o7, o8, rfl⟩ := h2
  refine ⟨M', ?_⟩
  unfold m_law
  refine run_go (ρ1 := [some (scriptD ns), o1, o2, o3, o4, o5, o6, o7, o8]) ?_
  unfold b_law
  exact go_step (for_ok hr h1) rfl
end LW
set_option Elab.async false
set_option linter.all false
set_option maxRecDepth 100000
set_option maxHeartbeats 0
open PySem PySem.W PySem.Calls PyProof.Rows
theorem PySem.Challenge.cw_callayers_k02_layers_made_holds : PySem.Challenge.rw_callayers_k02_layers_made.Holds := by
  w_on; o_law
  refine HandSHeadRun.head_any (r := OpenLaw.row PySem.Challenge.rw_callayers_k02_layers_made) (q := view (OpenLaw.row PySem.Challenge.rw_callayers_k02_layers_made).prog [16]) (H := LW.hk) (ob := LW.ob) (M := 30000) (loose := LW.nms) (d := HandSHeadRun.topDef (OpenLaw.row PySem.Challenge.rw_callayers_k02_layers_made).prog 16) (kwd := []) LW.ob_eq
    (by kernel_rfl) (fun s => by kernel_rfl) LW.run_ (by kernel_rfl) (by kernel_rfl) (by kernel_rfl) (by rfl) (by first | assumption | decide +kernel) (by decide +kernel) ⟨rfl, rfl, rfl, rfl, rfl, by decide +kernel⟩ ?hw ?hc
  case hw => w_witness2
  case hc =>
    refine Br.walkM (l := PySem.Challenge.rw_callayers_k02_layers_made) (n := 63) (k := 3) (x := "_law_script") (m := LW.m_law) rfl (by decide) (by kernel_rfl) ⟨rfl, by decide, by decide⟩ rfl ?F ?L
    case F =>
      intro w mg fa h Y G hmg0
      obtain ⟨K, KX, c⟩ := Y
      have hmg : mg ("law" : PySem.Str) = some (.ref fa) := by
        have e : (HandSHeadRun.topDef (OpenLaw.row PySem.Challenge.rw_callayers_k02_layers_made).prog 16).name = ("law" : PySem.Str) := by kernel_rfl
        rw [← e]
        exact hmg0
      obtain ⟨fd, hF⟩ := LW.facts KX G hmg c
      exact ⟨K, fd, KX, hF⟩
    case L => exact LW.plain
