import PyProof.Rows.All
import Wide.All
import OpenK.AllK
import Wide.FinOn
import HandS.ForMost
import HandS.Exc
import HandS.WordsExc
import HandS.Flow
import HandS.Star
import HandS.TupAny
import HandS.TupMul
import HandS.IsInst
import HandS.Conv
import HandS.Wide
import HandS.Defaults
import HandS.HeadHook1
import HandS.HeadHook2
import HandS.Small
import HandS.Style
import HandS.MakeKwOnly
import HandS.Comp
import HandS.AnyAll
import HandS.Deep
import HandS.RaiseMore
import HandS.ExcValue
import HandS.HeadHook3
import KE.KUnpackStar
import KE.GoesMore
import HandS.Zip
import KE.GoesEnumKw
import HandS.NoneIn
import HandS.HeadHook4
import KE.KStrBytes
import HandS.Head0
import HandS.Head1
import HandS.Head2
import HandS.HeadEnd
import PySem.Challenge.RW_callayers_k01_layers_known
set_option Elab.async false
set_option linter.all false
set_option maxRecDepth 100000
set_option maxHeartbeats 4000000
namespace Br
open PySem PySem.Spec PyProof.Rows L2
/-! ### data, memory, results -/
/-- a value as plain data: tup, lst by value (lst: a list that nobody writes); ref: the n-th object of the memory; gl: what the module's name stands for; ty: a built-in class -/
inductive D where
  | non | bl (b : Bool) | int (i : Int) | str (x : Str) | tup (xs : List D) | lst (xs : List D) | ref (n : Nat) | gl (x : Str) | ty (t : String)
inductive MO where
  | lst (xs : List D) | dic (kvs : List (Key × D)) | ins (c : Str) (fs : List (Str × D))
abbrev Mem := List MO
structure Exn where
  cls : D
  fs : Option (List (Str × D))
inductive R (α : Type) where
  | ok (a : α) (M : Mem) | ex (e : Exn) (M : Mem) | no
def R.bind {α β : Type} (r : R α) (f : α → Mem → R β) : R β := match r with
  | .ok a M => f a M
  | .ex e M => .ex e M
  | .no => .no
abbrev En := List (Option D)
/-- an expression's meaning; several; a test's -/
abbrev FE := En → Mem → R D
abbrev FA := En → Mem → R (List D)
abbrev FT := En → Mem → R Bool
/-- a statement's meaning -/
inductive Fl where
  | nx | ret (d : D) | bk | ct
abbrev FS := En → Mem → R (Fl × En)

/-! ### how data stand in the heap -/
section
variable (K : PySem.W.Frag)
/-- a list that nobody writes any more -/
def SqF (H : Hp) (a : Addr) (xs : List V) : Prop := (∃ o, H a = some (.frz o (.lst xs))) ∨
  ∃ (o : Obj) (its : Array Value) (n : Nat), K.lookup a = some o ∧ o.cls = .type "list" ∧ o.dict = none ∧ o.data = .seq its n ∧ its.size ≤ sizeLine ∧ Vals xs its.toList
theorem SqF.seq {K : PySem.W.Frag} {H : Hp} {a : Addr} {xs : List V} (h : SqF K H a xs) : SqL K H a xs := h.elim (fun ⟨o, e⟩ => .inl (.inr ⟨o, e⟩)) .inr
mutual
def DV (μ : Nat → Addr) (N : Nat) (H : Hp) : D → V → Prop
  | .non, v => v = .non
  | .bl b, v => v = .bl b
  | .int i, v => v = .int i
  | .str x, v => v = .str x
  | .tup ds, v => ∃ a xs, v = .ref a ∧ SqT K H a xs ∧ DVs μ N H ds xs
  | .lst ds, v => ∃ a xs, v = .ref a ∧ SqF K H a xs ∧ DVs μ N H ds xs
  | .ref n, v => n < N ∧ v = .ref (μ n)
  | .gl x, v => v = .ref (He.ga K x)
  | .ty t, v => v = .ty t
def DVs (μ : Nat → Addr) (N : Nat) (H : Hp) : List D → List V → Prop
  | [], vs => vs = []
  | d :: ds, vs => ∃ v r, vs = v :: r ∧ DV μ N H d v ∧ DVs μ N H ds r
end
/-- tuples and locked things stand -/
structure Kp (H H' : Hp) : Prop where
  tup : ∀ b xs, H b = some (.tup xs) → H' b = some (.tup xs)
  frz : ∀ b o u, H b = some (.frz o u) → H' b = some (.frz o u)
structure Lift (μ : Nat → Addr) (N : Nat) (H : Hp) (μ' : Nat → Addr) (N' : Nat) (H' : Hp) : Prop where
  le : N ≤ N'
  same : ∀ n, n < N → μ' n = μ n
  kp : Kp H H'
  fr : ∀ b o, H b = some o → (∀ n, n < N → μ n ≠ b) → H' b = some o
  new : ∀ n, N ≤ n → n < N' → H (μ' n) = none
  dom : ∀ b, H' b = none → H b = none
end
theorem Kp.refl (H : Hp) : Kp H H := ⟨fun _ _ h => h, fun _ _ _ h => h⟩
theorem Kp.trans {H H1 H2 : Hp} (a : Kp H H1) (b : Kp H1 H2) : Kp H H2 := ⟨fun c x h => b.tup c x (a.tup c x h), fun c o u h => b.frz c o u (a.frz c o u h)⟩
theorem Kp.fresh {H : Hp} {p : Addr} {o : HO} (h : H p = none) : Kp H (upd H p o) := ⟨fun b xs e => by rw [upd_ne (ne_of_none e h)]; exact e, fun b q u e => by rw [upd_ne (ne_of_none e h)]; exact e⟩
theorem Kp.lst {H : Hp} {p : Addr} {xs : List V} {o : HO} (h : H p = some (.lst xs)) : Kp H (upd H p o) :=
  ⟨fun b ys e => by rw [upd_ne (ne_of e h (by intro z; cases z))]; exact e, fun b q u e => by rw [upd_ne (ne_of e h (by intro z; cases z))]; exact e⟩
theorem Kp.ins {H : Hp} {p C dx : Addr} {fs : List (Str × V)} {o : HO} (h : H p = some (.ins C dx fs)) : Kp H (upd H p o) :=
  ⟨fun b ys e => by rw [upd_ne (ne_of e h (by intro z; cases z))]; exact e, fun b q u e => by rw [upd_ne (ne_of e h (by intro z; cases z))]; exact e⟩
theorem Kp.dK {H : Hp} {p : Addr} {kvs : List (Key × V)} {o : HO} (h : H p = some (.dK kvs)) : Kp H (upd H p o) :=
  ⟨fun b ys e => by rw [upd_ne (ne_of e h (by intro z; cases z))]; exact e, fun b q u e => by rw [upd_ne (ne_of e h (by intro z; cases z))]; exact e⟩
theorem Lift.refl (μ : Nat → Addr) (N : Nat) (H : Hp) : Lift μ N H μ N H := ⟨Nat.le_refl _, fun _ _ => rfl, Kp.refl H, fun _ _ h _ => h, fun n h h' => absurd h (Nat.not_le.mpr h'), fun _ h => h⟩
theorem Lift.trans {μ μ1 μ2 : Nat → Addr} {N N1 N2 : Nat} {H H1 H2 : Hp} (a : Lift μ N H μ1 N1 H1) (b : Lift μ1 N1 H1 μ2 N2 H2) : Lift μ N H μ2 N2 H2 := by
  refine ⟨Nat.le_trans a.le b.le, fun n h => (b.same n (Nat.lt_of_lt_of_le h a.le)).trans (a.same n h), a.kp.trans b.kp, fun c o h hn => ?_, fun n h h' => ?_, fun c h => a.dom c (b.dom c h)⟩
  · refine b.fr c o (a.fr c o h hn) fun n hl e => ?_
    by_cases q : n < N
    · rw [a.same n q] at e
      exact hn n q e
    · have z := a.new n (Nat.le_of_not_lt q) hl
      rw [e, h] at z
      cases z
  · by_cases q : n < N1
    · rw [b.same n q]
      exact a.new n h q
    · exact a.dom _ (b.new n (Nat.le_of_not_lt q) h')
theorem dom_upd {H : Hp} {p b : Addr} {o : HO} (h : upd H p o b = none) : H b = none := by
  unfold upd at h
  split at h
  · cases h
  · exact h
theorem fr_fresh {H : Hp} {p : Addr} {o : HO} (h : H p = none) (b : Addr) (u : HO) (e : H b = some u) : upd H p o b = some u := by rw [upd_ne (ne_of_none e h)]; exact e
section
variable {K : PySem.W.Frag} {μ μ' : Nat → Addr} {N N' : Nat} {H H' : Hp}
theorem Kp.sqT (k : Kp H H') {a : Addr} {xs : List V} (h : SqT K H a xs) : SqT K H' a xs := by
  rcases h with (h | ⟨o, h⟩) | h
  · exact .inl (.inl (k.tup _ _ h))
  · exact .inl (.inr ⟨o, k.frz _ _ _ h⟩)
  · exact .inr h
theorem Kp.sqF (k : Kp H H') {a : Addr} {xs : List V} (h : SqF K H a xs) : SqF K H' a xs := by
  rcases h with ⟨o, h⟩ | h
  · exact .inl ⟨o, k.frz _ _ _ h⟩
  · exact .inr h
mutual
theorem DV.lift (l : Lift μ N H μ' N' H') : ∀ (d : D) (v : V), DV K μ N H d v → DV K μ' N' H' d v
  | .non, v, h => by unfold DV at h ⊢; exact h
  | .bl b, v, h => by unfold DV at h ⊢; exact h
  | .int i, v, h => by unfold DV at h ⊢; exact h
  | .str x, v, h => by unfold DV at h ⊢; exact h
  | .tup ds, v, h => by
    unfold DV at h ⊢
    obtain ⟨a, xs, e, q, r⟩ := h
    exact ⟨a, xs, e, l.kp.sqT q, DVs.lift l ds xs r⟩
  | .lst ds, v, h => by
    unfold DV at h ⊢
    obtain ⟨a, xs, e, q, r⟩ := h
    exact ⟨a, xs, e, l.kp.sqF q, DVs.lift l ds xs r⟩
  | .ref n, v, h => by
    unfold DV at h ⊢
    exact ⟨Nat.lt_of_lt_of_le h.1 l.le, by rw [l.same n h.1]; exact h.2⟩
  | .gl x, v, h => by unfold DV at h ⊢; exact h
  | .ty t, v, h => by unfold DV at h ⊢; exact h
theorem DVs.lift (l : Lift μ N H μ' N' H') : ∀ (ds : List D) (vs : List V), DVs K μ N H ds vs → DVs K μ' N' H' ds vs
  | [], vs, h => by unfold DVs at h ⊢; exact h
  | d :: ds, vs, h => by
    unfold DVs at h ⊢
    obtain ⟨v, r, e, h1, h2⟩ := h
    exact ⟨v, r, e, DV.lift l d v h1, DVs.lift l ds r h2⟩
end
theorem DVs.nil : DVs K μ N H [] [] := by unfold DVs; rfl
theorem DVs.cons {d : D} {v : V} {ds : List D} {vs : List V} (h : DV K μ N H d v) (t : DVs K μ N H ds vs) : DVs K μ N H (d :: ds) (v :: vs) := by
  unfold DVs; exact ⟨v, vs, rfl, h, t⟩
theorem DVs.length : ∀ {ds : List D} {vs : List V}, DVs K μ N H ds vs → vs.length = ds.length
  | [], vs, h => by unfold DVs at h; rw [h]; rfl
  | d :: ds, vs, h => by
    unfold DVs at h
    obtain ⟨v, r, e, h1, h2⟩ := h
    rw [e, List.length_cons, List.length_cons, DVs.length h2]
theorem DVs.append : ∀ {ds : List D} {vs : List V} {ds' : List D} {vs' : List V}, DVs K μ N H ds vs → DVs K μ N H ds' vs' → DVs K μ N H (ds ++ ds') (vs ++ vs')
  | [], vs, ds', vs', h, h' => by unfold DVs at h; rw [h]; exact h'
  | d :: ds, vs, ds', vs', h, h' => by
    unfold DVs at h
    obtain ⟨v, r, e, h1, h2⟩ := h
    rw [e]
    exact DVs.cons h1 (DVs.append h2 h')
theorem DVs.get : ∀ {ds : List D} {vs : List V} {i : Nat} {d : D}, DVs K μ N H ds vs → ds[i]? = some d → ∃ v, vs[i]? = some v ∧ DV K μ N H d v
  | [], vs, i, d, h, e => by simp at e
  | d0 :: ds, vs, 0, d, h, e => by
    unfold DVs at h
    obtain ⟨v, r, e1, h1, h2⟩ := h
    simp at e; subst e; subst e1
    exact ⟨v, rfl, h1⟩
  | d0 :: ds, vs, i + 1, d, h, e => by
    unfold DVs at h
    obtain ⟨v, r, e1, h1, h2⟩ := h
    subst e1
    exact DVs.get (i := i) h2 (by simpa using e)
theorem DVs.get' : ∀ {ds : List D} {vs : List V} {i : Nat} {v : V}, DVs K μ N H ds vs → vs[i]? = some v → ∃ d, ds[i]? = some d ∧ DV K μ N H d v
  | [], vs, i, d, h, e => by unfold DVs at h; subst h; simp at e
  | d0 :: ds, vs, 0, d, h, e => by
    unfold DVs at h
    obtain ⟨v, r, e1, h1, h2⟩ := h
    subst e1; simp at e; subst e
    exact ⟨d0, rfl, h1⟩
  | d0 :: ds, vs, i + 1, d, h, e => by
    unfold DVs at h
    obtain ⟨v, r, e1, h1, h2⟩ := h
    subst e1
    exact DVs.get' (i := i) h2 (by simpa using e)
theorem DVs.take : ∀ {ds : List D} {vs : List V} (n : Nat), DVs K μ N H ds vs → DVs K μ N H (ds.take n) (vs.take n)
  | _, _, 0, _ => by simpa using DVs.nil
  | [], vs, n + 1, h => by unfold DVs at h; subst h; simpa using DVs.nil
  | d :: ds, vs, n + 1, h => by
    unfold DVs at h
    obtain ⟨v, r, e, h1, h2⟩ := h
    subst e
    exact DVs.cons h1 (DVs.take n h2)
theorem DVs.drop : ∀ {ds : List D} {vs : List V} (n : Nat), DVs K μ N H ds vs → DVs K μ N H (ds.drop n) (vs.drop n)
  | _, _, 0, h => h
  | [], vs, n + 1, h => by unfold DVs at h; subst h; simpa using DVs.nil
  | d :: ds, vs, n + 1, h => by
    unfold DVs at h
    obtain ⟨v, r, e, h1, h2⟩ := h
    subst e
    exact DVs.drop n h2
theorem DVs.set {d : D} {v : V} (q : DV K μ N H d v) : ∀ {ds : List D} {vs : List V} (i : Nat), DVs K μ N H ds vs → DVs K μ N H (ds.set i d) (vs.set i v)
  | [], vs, i, h => by unfold DVs at h; subst h; simpa using DVs.nil
  | d0 :: ds, vs, 0, h => by
    unfold DVs at h
    obtain ⟨v0, r, e, h1, h2⟩ := h
    subst e
    exact DVs.cons q h2
  | d0 :: ds, vs, i + 1, h => by
    unfold DVs at h
    obtain ⟨v0, r, e, h1, h2⟩ := h
    subst e
    exact DVs.cons h1 (DVs.set q i h2)
theorem DVs.dropLast {ds : List D} {vs : List V} (h : DVs K μ N H ds vs) : DVs K μ N H ds.dropLast vs.dropLast := by
  rw [List.dropLast_eq_take, List.dropLast_eq_take, h.length]
  exact h.take _
theorem DVs.reverse : ∀ {ds : List D} {vs : List V}, DVs K μ N H ds vs → DVs K μ N H ds.reverse vs.reverse
  | [], vs, h => by unfold DVs at h; subst h; simpa using DVs.nil
  | d :: ds, vs, h => by
    unfold DVs at h
    obtain ⟨v, r, e, h1, h2⟩ := h
    subst e
    rw [List.reverse_cons, List.reverse_cons]
    exact DVs.append (DVs.reverse h2) (DVs.cons h1 DVs.nil)
theorem DVs.rep {ds : List D} {vs : List V} (h : DVs K μ N H ds vs) : ∀ n : Nat, DVs K μ N H (List.replicate n ds).flatten (List.replicate n vs).flatten
  | 0 => by simpa using DVs.nil
  | n + 1 => by
    rw [List.replicate_succ, List.replicate_succ, List.flatten_cons, List.flatten_cons]
    exact DVs.append h (DVs.rep h n)
theorem DVs.ints : ∀ {ns : List Int} {vs : List V}, DVs K μ N H (ns.map D.int) vs → vs = ns.map V.int
  | [], vs, h => by simp only [List.map_nil] at h ⊢; unfold DVs at h; exact h
  | n :: ns, vs, h => by
    rw [List.map_cons] at h ⊢
    unfold DVs at h
    obtain ⟨v, r, e, h1, h2⟩ := h
    unfold DV at h1
    rw [e, h1, DVs.ints h2]
theorem DVs.of_ints : ∀ (ns : List Int), DVs K μ N H (ns.map D.int) (ns.map V.int)
  | [] => DVs.nil
  | n :: ns => by rw [List.map_cons, List.map_cons]; exact DVs.cons (by unfold DV; rfl) (DVs.of_ints ns)
theorem DVs.bls : ∀ {ns : List Bool} {vs : List V}, DVs K μ N H (ns.map D.bl) vs → vs = ns.map V.bl
  | [], vs, h => by simp only [List.map_nil] at h ⊢; unfold DVs at h; exact h
  | n :: ns, vs, h => by
    rw [List.map_cons] at h ⊢
    unfold DVs at h
    obtain ⟨v, r, e, h1, h2⟩ := h
    unfold DV at h1
    rw [e, h1, DVs.bls h2]
theorem DVs.strs : ∀ {ns : List Str} {vs : List V}, DVs K μ N H (ns.map D.str) vs → vs = ns.map V.str
  | [], vs, h => by simp only [List.map_nil] at h ⊢; unfold DVs at h; exact h
  | n :: ns, vs, h => by
    rw [List.map_cons] at h ⊢
    unfold DVs at h
    obtain ⟨v, r, e, h1, h2⟩ := h
    unfold DV at h1
    rw [e, h1, DVs.strs h2]
theorem DVs.of_strs : ∀ (ns : List Str), DVs K μ N H (ns.map D.str) (ns.map V.str)
  | [] => DVs.nil
  | n :: ns => by rw [List.map_cons, List.map_cons]; exact DVs.cons (by unfold DV; rfl) (DVs.of_strs ns)
theorem DVs.inv_cons {d : D} {ds : List D} {vs : List V} (h : DVs K μ N H (d :: ds) vs) : ∃ v r, vs = v :: r ∧ DV K μ N H d v ∧ DVs K μ N H ds r := by unfold DVs at h; exact h
theorem DVs.inv_nil {vs : List V} (h : DVs K μ N H [] vs) : vs = [] := by unfold DVs at h; exact h
end
/-! ### the memory -/
section
variable (K : PySem.W.Frag)
/-- fields -/
def FV (μ : Nat → Addr) (N : Nat) (H : Hp) : List (Str × D) → List (Str × V) → Prop
  | [], fs => fs = []
  | p :: ps, fs => ∃ v r, fs = (p.1, v) :: r ∧ DV K μ N H p.2 v ∧ FV μ N H ps r
def KVs (μ : Nat → Addr) (N : Nat) (H : Hp) : List (Key × D) → List (Key × V) → Prop
  | [], fs => fs = []
  | p :: ps, fs => ∃ v r, fs = (p.1, v) :: r ∧ DV K μ N H p.2 v ∧ KVs μ N H ps r
def OV (μ : Nat → Addr) (N : Nat) (H : Hp) (a : Addr) : MO → Prop
  | .lst ds => ∃ xs, H a = some (.lst xs) ∧ DVs K μ N H ds xs
  | .dic kvs => ∃ ps, H a = some (.dK ps) ∧ KVs K μ N H kvs ps
  | .ins c fs => ∃ dx gs, H a = some (.ins (He.ga K c) dx gs) ∧ FV K μ N H fs gs
structure Rel (μ : Nat → Addr) (M : Mem) (H : Hp) : Prop where
  obj : ∀ n o, M[n]? = some o → OV K μ M.length H (μ n) o
  inj : ∀ i j, i < M.length → j < M.length → μ i = μ j → i = j
/-- the names' values -/
structure EV (μ : Nat → Addr) (N : Nat) (H : Hp) (ρ : En) (σ : L2.St) : Prop where
  len : σ.length = ρ.length
  at_ : ∀ (i : Nat) d, ρ[i]? = some (some d) → ∃ v, σ[i]? = some (some v) ∧ DV K μ N H d v
/-- an exception -/
def XV (μ : Nat → Addr) (N : Nat) (H : Hp) (e : Exn) (cls : Value) (dd : Option Addr) : Prop :=
  (match e.cls with
    | .gl x => cls = .ref (He.ga K x)
    | .ty t => cls = .type t
    | _ => False) ∧
  (match e.fs with
    | none => dd = none
    | some fs => ∃ a gs, dd = some a ∧ H a = some (.xd gs) ∧ FV K μ N H fs gs)
end
section
variable {K : PySem.W.Frag} {μ μ' : Nat → Addr} {N N' : Nat} {H H' : Hp}
theorem FV.lift (l : Lift μ N H μ' N' H') : ∀ {ps : List (Str × D)} {fs : List (Str × V)}, FV K μ N H ps fs → FV K μ' N' H' ps fs
  | [], fs, h => h
  | p :: ps, fs, h => let ⟨v, r, e, h1, h2⟩ := h; ⟨v, r, e, h1.lift l, FV.lift l h2⟩
theorem KVs.lift (l : Lift μ N H μ' N' H') : ∀ {ps : List (Key × D)} {fs : List (Key × V)}, KVs K μ N H ps fs → KVs K μ' N' H' ps fs
  | [], fs, h => h
  | p :: ps, fs, h => let ⟨v, r, e, h1, h2⟩ := h; ⟨v, r, e, h1.lift l, KVs.lift l h2⟩
theorem EV.lift (l : Lift μ N H μ' N' H') {ρ : En} {σ : L2.St} (h : EV K μ N H ρ σ) : EV K μ' N' H' ρ σ :=
  ⟨h.len, fun i d e => let ⟨v, e1, e2⟩ := h.at_ i d e; ⟨v, e1, e2.lift l⟩⟩
theorem EV.set {ρ : En} {σ : L2.St} (h : EV K μ N H ρ σ) {d : D} {v : V} (q : DV K μ N H d v) (i : Nat) : EV K μ N H (ρ.set i (some d)) (σ.set i (some v)) := by
  refine ⟨by rw [List.length_set, List.length_set]; exact h.len, fun j e hj => ?_⟩
  by_cases hij : i = j
  · subst hij
    have hl : i < ρ.length := by
      have := (List.getElem?_eq_some_iff.mp hj).1
      simpa using this
    rw [List.getElem?_set_self hl] at hj
    cases hj
    exact ⟨v, List.getElem?_set_self (by rw [h.len]; exact hl), q⟩
  · rw [List.getElem?_set_ne hij] at hj
    obtain ⟨w, e1, e2⟩ := h.at_ j e hj
    exact ⟨w, by rw [List.getElem?_set_ne hij]; exact e1, e2⟩
/-- the same memory over a heap that keeps what is tracked -/
theorem OV.lift {a : Addr} {o : MO} (l : Lift μ N H μ' N' H') (e : ∀ u, H a = some u → H' a = some u) (h : OV K μ N H a o) : OV K μ' N' H' a o := by
  cases o with
  | lst ds => obtain ⟨xs, h1, h2⟩ := h; exact ⟨xs, e _ h1, h2.lift l⟩
  | dic kvs => obtain ⟨xs, h1, h2⟩ := h; exact ⟨xs, e _ h1, h2.lift l⟩
  | ins c fs => obtain ⟨dx, xs, h1, h2⟩ := h; exact ⟨dx, xs, e _ h1, h2.lift l⟩
theorem OV.some {a : Addr} {o : MO} (h : OV K μ N H a o) : ∃ u, H a = some u ∧ (∀ q, u ≠ .tup q) ∧ ∀ q r, u ≠ .frz q r := by
  cases o with
  | lst ds => obtain ⟨xs, h1, h2⟩ := h; exact ⟨_, h1, (fun _ z => nomatch z), (fun _ _ z => nomatch z)⟩
  | dic kvs => obtain ⟨xs, h1, h2⟩ := h; exact ⟨_, h1, (fun _ z => nomatch z), (fun _ _ z => nomatch z)⟩
  | ins c fs => obtain ⟨dx, xs, h1, h2⟩ := h; exact ⟨_, h1, (fun _ z => nomatch z), (fun _ _ z => nomatch z)⟩
theorem Rel.some {M : Mem} (r : Rel K μ M H) {n : Nat} (hn : n < M.length) : ∃ u, H (μ n) = some u ∧ (∀ q, u ≠ .tup q) ∧ ∀ q s, u ≠ .frz q s := (r.obj n M[n] (by simp [hn])).some
theorem Rel.ne {M : Mem} (r : Rel K μ M H) {n : Nat} (hn : n < M.length) {p : Addr} (h : H p = none) : μ n ≠ p := by
  obtain ⟨u, e, _⟩ := r.some hn
  exact ne_of_none e h
theorem Lift.fresh {N : Nat} {p : Addr} {o : HO} (h : H p = none) : Lift μ N H μ N (upd H p o) :=
  ⟨Nat.le_refl _, fun _ _ => rfl, Kp.fresh h, fun b u e _ => fr_fresh h b u e, fun n h h' => absurd h (Nat.not_le.mpr h'), fun b e => dom_upd e⟩
/-- a new thing that the memory does not hold -/
theorem Rel.fresh {M : Mem} (r : Rel K μ M H) {p : Addr} {o : HO} (h : H p = none) : Rel K μ M (upd H p o) :=
  ⟨fun n o' e => (r.obj n o' e).lift (Lift.fresh h) fun u q => by rw [upd_ne (ne_of_none q h)]; exact q, r.inj⟩
def ext (μ : Nat → Addr) (N : Nat) (p : Addr) : Nat → Addr := fun n => if n = N then p else μ n
theorem Lift.alloc {M : Mem} {p : Addr} {o : HO} {m : MO} (h : H p = none) : Lift μ M.length H (ext μ M.length p) (M ++ [m]).length (upd H p o) :=
  ⟨by simp, fun n hn => if_neg (Nat.ne_of_lt hn), Kp.fresh h, fun b u e _ => fr_fresh h b u e, fun n h1 h2 => (by
    rw [List.length_append, List.length_singleton] at h2
    have e : n = M.length := by omega
    unfold ext
    rw [if_pos e]
    exact h), fun b e => dom_upd e⟩
/-- a new object of the memory -/
theorem Rel.alloc {M : Mem} (r : Rel K μ M H) {p : Addr} {o : HO} {m : MO} (h : H p = none) (new : OV K (ext μ M.length p) (M ++ [m]).length (upd H p o) p m) : Rel K (ext μ M.length p) (M ++ [m]) (upd H p o) := by
  refine ⟨fun n o' e => ?_, fun i j hi hj e => ?_⟩
  · by_cases hn : n < M.length
    · rw [List.getElem?_append_left hn] at e
      have q := (r.obj n o' e).lift (Lift.alloc (o := o) (m := m) h) (fun u z => by rw [upd_ne (ne_of_none z h)]; exact z)
      have e2 : ext μ M.length p n = μ n := if_neg (Nat.ne_of_lt hn)
      rw [e2]; exact q
    · have hl := (List.getElem?_eq_some_iff.mp e).1
      rw [List.length_append, List.length_singleton] at hl
      have hn' : n = M.length := by omega
      subst hn'
      rw [List.getElem?_append_right (Nat.le_refl _), Nat.sub_self] at e
      have e1 : m = o' := Option.some.inj e
      subst e1
      have e2 : ext μ M.length p M.length = p := if_pos rfl
      rw [e2]; exact new
  · rw [List.length_append, List.length_singleton] at hi hj
    unfold ext at e
    by_cases h1 : i = M.length
    · by_cases h2 : j = M.length
      · omega
      · rw [if_pos h1, if_neg h2] at e
        exact absurd e.symm (r.ne (by omega) h)
    · by_cases h2 : j = M.length
      · rw [if_neg h1, if_pos h2] at e
        exact absurd e (r.ne (by omega) h)
      · rw [if_neg h1, if_neg h2] at e
        exact r.inj i j (by omega) (by omega) e
/-- an object of the memory is written -/
theorem Rel.put {M : Mem} (r : Rel K μ M H) {n : Nat} (hn : n < M.length) {o : HO} {m : MO} (new : OV K μ M.length (upd H (μ n) o) (μ n) m) : Rel K μ (M.set n m) (upd H (μ n) o) ∧ Lift μ M.length H μ (M.set n m).length (upd H (μ n) o) := by
  have l : Lift μ M.length H μ M.length (upd H (μ n) o) := ⟨Nat.le_refl _, fun _ _ => rfl, ⟨fun b xs e => by
      obtain ⟨u, hu, h1, h2⟩ := r.some hn
      rw [upd_ne (ne_of e hu (fun z => h1 xs z.symm))]; exact e, fun b q s e => by
      obtain ⟨u, hu, h1, h2⟩ := r.some hn
      rw [upd_ne (ne_of e hu (fun z => h2 q s z.symm))]; exact e⟩, fun b u e hne => by rw [upd_ne (fun z => hne n hn z.symm)]; exact e, fun n h h' => absurd h (Nat.not_le.mpr h'), fun b e => dom_upd e⟩
  refine ⟨⟨fun i o' e => ?_, fun i j hi hj e => r.inj i j (by simpa using hi) (by simpa using hj) e⟩, by rw [List.length_set]; exact l⟩
  rw [List.length_set]
  by_cases hi : n = i
  · subst hi
    rw [List.getElem?_set_self hn] at e
    cases e
    exact new
  · rw [List.getElem?_set_ne hi] at e
    have hil := (List.getElem?_eq_some_iff.mp e).1
    refine (r.obj i o' e).lift l fun u z => ?_
    rw [upd_ne (fun q => hi (r.inj n i hn hil q.symm))]
    exact z
end
/-! ### meanings -/
section
variable (K : PySem.W.Frag)
/-- what is wanted of a result -/
def Ans {α β : Type} (rel : (Nat → Addr) → Nat → Hp → α → β → Prop) (W : Value → Option Addr → Hp → Prop) (μ : Nat → Addr) (N : Nat) (H : Hp) (r : R α) (Q : β → Hp → Prop) : Prop := match r with
  | .ok d M' => ∀ μ' H' v, Lift μ N H μ' M'.length H' → Rel K μ' M' H' → rel μ' M'.length H' d v → Q v H'
  | .ex e M' => ∀ μ' H' cls dd, Lift μ N H μ' M'.length H' → Rel K μ' M' H' → XV K μ' M'.length H' e cls dd → W cls dd H'
  | .no => False
def tM {α β : Type} (rel : (Nat → Addr) → Nat → Hp → α → β → Prop) (W : WX) (f : En → Mem → R α) : L2.St → Hp → (β → Hp → Prop) → Prop := fun σ H Q =>
  ∃ μ M ρ, Rel K μ M H ∧ EV K μ M.length H ρ σ ∧ Ans K rel (fun c d H' => W c d σ H') μ M.length H (f ρ M) Q
end
section
variable {K : PySem.W.Frag} {α β γ δ : Type} {rel : (Nat → Addr) → Nat → Hp → α → β → Prop} {rel2 : (Nat → Addr) → Nat → Hp → γ → δ → Prop} {W : Value → Option Addr → Hp → Prop} {μ μ1 : Nat → Addr} {N N1 : Nat} {H H1 : Hp}
theorem Ans.rebase {r : R α} {Q : β → Hp → Prop} (l : Lift μ N H μ1 N1 H1) (h : Ans K rel W μ N H r Q) : Ans K rel W μ1 N1 H1 r Q := by
  cases r with
  | ok d M => exact fun μ' H' v l' r' q => h μ' H' v (l.trans l') r' q
  | ex e M => exact fun μ' H' c d l' r' q => h μ' H' c d (l.trans l') r' q
  | no => exact h
theorem Ans.mono {r : R α} {Q Q' : β → Hp → Prop} {W' : Value → Option Addr → Hp → Prop} (hQ : ∀ v H', Q v H' → Q' v H') (hW : ∀ c d H', W c d H' → W' c d H') (h : Ans K rel W μ N H r Q) : Ans K rel W' μ N H r Q' := by
  cases r with
  | ok d M => exact fun μ' H' v l' r' q => hQ _ _ (h μ' H' v l' r' q)
  | ex e M => exact fun μ' H' c d l' r' q => hW _ _ _ (h μ' H' c d l' r' q)
  | no => exact h
/-- one after another -/
theorem Ans.bind {r : R α} {g : α → Mem → R γ} {Q : δ → Hp → Prop} (h : Ans K rel2 W μ N H (r.bind g) Q) :
    Ans K rel W μ N H r (fun v H1 => ∃ μ1 M1 d, Lift μ N H μ1 M1.length H1 ∧ Rel K μ1 M1 H1 ∧ rel μ1 M1.length H1 d v ∧ Ans K rel2 W μ1 M1.length H1 (g d M1) Q) := by
  cases r with
  | ok d M => exact fun μ' H' v l' r' q => ⟨μ', M, d, l', r', q, Ans.rebase l' h⟩
  | ex e M => exact h
  | no => exact h
end
end Br
set_option Elab.async false
set_option linter.all false
set_option maxRecDepth 100000
set_option maxHeartbeats 4000000
namespace Br
open PySem PySem.Spec PyProof.Rows L2
theorem PE.weak {X : Cx} {e : Expr} {t t' : TE} (h : PE X e t) (w : ∀ σ H Q, t' σ H Q → t σ H Q) : PE X e t' := ⟨fun pins s σ H Q I hw => h.run pins s σ H Q I (w σ H Q hw)⟩
theorem PT.weak {X : Cx} {e : Expr} {t t' : TT} (h : PT X e t) (w : ∀ σ H Q, t' σ H Q → t σ H Q) : PT X e t' := ⟨fun pins s σ H Q I hw => h.run pins s σ H Q I (w σ H Q hw)⟩
theorem PA.weak {X : Cx} {e : List Expr} {t t' : TA} (h : PA X e t) (w : ∀ σ H Q, t' σ H Q → t σ H Q) : PA X e t' := ⟨fun p pins s σ H Q I hw => h.run p pins s σ H Q I (w σ H Q hw)⟩
theorem PS.weak {X : Cx} {e : Stmt} {t t' : TS} (h : PS X e t) (w : ∀ D σ H, t' D σ H → t D σ H) : PS X e t' := ⟨fun pins s σ H D I hw => h.run pins s σ H D I (w D σ H hw)⟩
theorem PSs.weak {X : Cx} {e : List Stmt} {t t' : TS} (h : PSs X e t) (w : ∀ D σ H, t' D σ H → t D σ H) : PSs X e t' := ⟨fun pins s σ H D I hw => h.run pins s σ H D I (w D σ H hw)⟩
/-- bools as they are -/
def BV (μ : Nat → Addr) (N : Nat) (H : Hp) (a b : Bool) : Prop := a = b
/-- an expression means f (W: the wish of an exception) -/
def ME (X : Cx) (W : WX) (e : Expr) (f : FE) : Prop := PE X e (tM X.K (DV X.K) W f)
def MA (X : Cx) (W : WX) (es : List Expr) (f : FA) : Prop := PA X es (tM X.K (DVs X.K) W f)
def MT (X : Cx) (W : WX) (e : Expr) (f : FT) : Prop := PT X e (tM X.K BV W f)
section
variable {K : PySem.W.Frag} {α β γ δ : Type} {rel : (Nat → Addr) → Nat → Hp → α → β → Prop} {rel2 : (Nat → Addr) → Nat → Hp → γ → δ → Prop} {W : WX} {σ : L2.St} {H : Hp}
/-- one, then another -/
theorem tM.seq {f : En → Mem → R α} {g : En → α → Mem → R γ} {Q : δ → Hp → Prop} (h : tM K rel2 W (fun ρ M => (f ρ M).bind (g ρ)) σ H Q) :
    tM K rel W f σ H (fun v H1 => ∃ μ M ρ d, Rel K μ M H1 ∧ EV K μ M.length H1 ρ σ ∧ rel μ M.length H1 d v ∧ Ans K rel2 (fun c d H' => W c d σ H') μ M.length H1 (g ρ d M) Q) := by
  obtain ⟨μ, M, ρ, r, e, a⟩ := h
  refine ⟨μ, M, ρ, r, e, ?_⟩
  refine Ans.mono (fun v H1 ⟨μ1, M1, d, l, r1, q, a1⟩ => ⟨μ1, M1, ρ, d, r1, e.lift l, q, a1⟩) (fun _ _ _ z => z) (Ans.bind (rel := rel) a)
theorem tM.mono {f : En → Mem → R α} {Q Q' : β → Hp → Prop} (hQ : ∀ v H', Q v H' → Q' v H') (h : tM K rel W f σ H Q) : tM K rel W f σ H Q' := by
  obtain ⟨μ, M, ρ, r, e, a⟩ := h
  exact ⟨μ, M, ρ, r, e, a.mono hQ fun _ _ _ z => z⟩
end
/-- a two-place operation by data -/
abbrev F2 := D → D → Mem → R D
abbrev F1 := D → Mem → R D
abbrev FL := List D → Mem → R D
abbrev W0 := Value → Option Addr → Hp → Prop
def r2 (K : PySem.W.Frag) (W : W0) (g : F2) : R2 := fun x y H Q => ∃ μ M a b, Rel K μ M H ∧ DV K μ M.length H a x ∧ DV K μ M.length H b y ∧ Ans K (DV K) W μ M.length H (g a b M) Q
def r1 (K : PySem.W.Frag) (W : W0) (g : F1) : V → Hp → VK → Prop := fun x H Q => ∃ μ M a, Rel K μ M H ∧ DV K μ M.length H a x ∧ Ans K (DV K) W μ M.length H (g a M) Q
def rL (K : PySem.W.Frag) (W : W0) (g : FL) : List V → Hp → VK → Prop := fun xs H Q => ∃ μ M as, Rel K μ M H ∧ DVs K μ M.length H as xs ∧ Ans K (DV K) W μ M.length H (g as M) Q
def rM (K : PySem.W.Frag) (W : W0) (g : D → FL) : V → List V → Hp → VK → Prop := fun x xs H Q => ∃ μ M a as, Rel K μ M H ∧ DV K μ M.length H a x ∧ DVs K μ M.length H as xs ∧ Ans K (DV K) W μ M.length H (g a as M) Q
def OpM (X : Cx) (f : Value → Value → Sem Value) (g : F2) : Prop := ∀ W, OpR X f (r2 X.K W g)
def UnM (X : Cx) (f : Value → Sem Value) (g : F1) : Prop := ∀ W, UnR X f (r1 X.K W g)
def CallM (X : Cx) (f : Value) (g : FL) : Prop := ∀ W, CallR X f (rL X.K W g)
def MtM (X : Cx) (id : String) (g : D → FL) : Prop := ∀ W, MtR X id (rM X.K W g)
def IxM (X : Cx) (g : F2) : Prop := ∀ W, IxR X (r2 X.K W g)

/-! ### combinators -/
def eV (i : Nat) : FE := fun ρ M => match ρ[i]? with
  | some (some d) => .ok d M
  | _ => .no
def eC (d : D) : FE := fun _ M => .ok d M
def e1 (g : F1) (a : FE) : FE := fun ρ M => (a ρ M).bind g
def e2 (g : F2) (a b : FE) : FE := fun ρ M => (a ρ M).bind fun x M1 => (b ρ M1).bind fun y M2 => g x y M2
def eL (g : FL) (a : FA) : FE := fun ρ M => (a ρ M).bind g
def eM (g : D → FL) (a : FE) (as : FA) : FE := fun ρ M => (a ρ M).bind fun x M1 => (as ρ M1).bind fun xs M2 => g x xs M2
def aN : FA := fun _ M => .ok [] M
def aC (a : FE) (r : FA) : FA := fun ρ M => (a ρ M).bind fun x M1 => (r ρ M1).bind fun xs M2 => .ok (x :: xs) M2
section
variable {X : Cx} {W : WX} {e a b : Expr} {es : List Expr} {f fa fb : FE} {g : FA} {pos : Pos}
theorem me_v (i : Nat) {x : Str} (hN : X.N[i]? = some x := by rfl) (hv : Vis X.env.scope x := by first | exact Or.inl rfl | exact Or.inr (Or.inl rfl) | exact Or.inr (Or.inr rfl)) (hd : (x == ("__debug__" : Str)) = false := by decide)
    (hcd : (x == ("__classdict__" : Str)) = false := by decide) : ME X W (.Name x pos) (eV i) := by
  refine PE.weak (pe_var hN hv hd hcd) fun σ H Q ⟨μ, M, ρ, r, e, q⟩ => ?_
  unfold eV at q
  cases h : ρ[i]? with
  | none => rw [h] at q; exact q.elim
  | some o =>
    cases o with
    | none => rw [h] at q; exact q.elim
    | some d =>
      rw [h] at q
      obtain ⟨v, h1, h2⟩ := e.at_ i d h
      exact ⟨v, h1, q μ H v (Lift.refl ..) r h2⟩
theorem me_int {i : Int} {j : Nat} : ME X W (.Constant (.int i) j pos) (eC (.int i)) :=
  PE.weak pe_int fun σ H Q ⟨μ, M, ρ, r, e, q⟩ => q μ H _ (Lift.refl ..) r (by unfold DV; rfl)
theorem me_bl {i : Bool} {j : Nat} : ME X W (.Constant (.bool i) j pos) (eC (.bl i)) :=
  PE.weak pe_bl fun σ H Q ⟨μ, M, ρ, r, e, q⟩ => q μ H _ (Lift.refl ..) r (by unfold DV; rfl)
theorem me_non {j : Nat} : ME X W (.Constant .none j pos) (eC .non) :=
  PE.weak pe_non fun σ H Q ⟨μ, M, ρ, r, e, q⟩ => q μ H _ (Lift.refl ..) r (by unfold DV; rfl)
theorem me_str {x : Str} {j : Nat} : ME X W (.Constant (.str x) j pos) (eC (.str x)) :=
  PE.weak pe_str fun σ H Q ⟨μ, M, ρ, r, e, q⟩ => q μ H _ (Lift.refl ..) r (by unfold DV; rfl)
/-- a global's value that is a text, an int -/
theorem me_gstr {x z : Str} (hg : Gl X x) (hm : ∃ t, X.mg x = some (.str z t)) (hd : (x == ("__debug__" : Str)) = false := by decide) : ME X W (.Name x pos) (eC (.str z)) := by
  obtain ⟨t, hm⟩ := hm
  exact PE.weak (pe_glob hg hm (v := .str z) ⟨t, rfl⟩ hd) fun σ H Q ⟨μ, M, ρ, r, e, q⟩ => q μ H _ (Lift.refl ..) r (by unfold DV; rfl)
theorem me_gint {x : Str} {z : Int} (hg : Gl X x) (hm : ∃ t, X.mg x = some (.int z t)) (hd : (x == ("__debug__" : Str)) = false := by decide) : ME X W (.Name x pos) (eC (.int z)) := by
  obtain ⟨t, hm⟩ := hm
  exact PE.weak (pe_glob hg hm (v := .int z) ⟨t, rfl⟩ hd) fun σ H Q ⟨μ, M, ρ, r, e, q⟩ => q μ H _ (Lift.refl ..) r (by unfold DV; rfl)
theorem me_gl {x : Str} (hg : Gl X x) (hm : X.mg x = some (.ref (He.ga X.K x))) (hd : (x == ("__debug__" : Str)) = false := by decide) : ME X W (.Name x pos) (eC (.gl x)) :=
  PE.weak (pe_glob hg hm (v := .ref (He.ga X.K x)) rfl hd) fun σ H Q ⟨μ, M, ρ, r, e, q⟩ => q μ H _ (Lift.refl ..) r (by unfold DV; rfl)
theorem me_ty {x : Str} {T : String} (hg : Gl X x) (hm : X.mg x = none) (hv : bootBuiltins x = some (.type T)) (hn : x ≠ "__name__" := by decide) (hd : (x == ("__debug__" : Str)) = false := by decide) : ME X W (.Name x pos) (eC (.ty T)) :=
  PE.weak (pe_bltn hg hm hv (v := .ty T) rfl hn hd) fun σ H Q ⟨μ, M, ρ, r, e, q⟩ => q μ H _ (Lift.refl ..) r (by unfold DV; rfl)
/-- a global tuple of the module -/
theorem me_gtup {x : Str} {ds : List D} (hg : Gl X x) (hm : X.mg x = some (.ref (He.ga X.K x))) (ht : ∀ (μ : Nat → Addr) (N : Nat) (H : Hp), ∃ vs, SqT X.K H (He.ga X.K x) vs ∧ DVs X.K μ N H ds vs) (hd : (x == ("__debug__" : Str)) = false := by decide) :
    ME X W (.Name x pos) (eC (.tup ds)) :=
  PE.weak (pe_glob hg hm (v := .ref (He.ga X.K x)) rfl hd) fun σ H Q ⟨μ, M, ρ, r, e, q⟩ => q μ H _ (Lift.refl ..) r (by
    obtain ⟨vs, h1, h2⟩ := ht μ M.length H
    unfold DV; exact ⟨_, vs, rfl, h1, h2⟩)
theorem me_op {op : Operator} {g : F2} (ho : OpM X (binaryOp op) g) (ha : ME X W a fa) (hb : ME X W b fb) : ME X W (.BinOp a op b pos) (e2 g fa fb) := by
  refine ⟨fun pins s σ H Q I h => ?_⟩
  refine (pe_op (ho (fun c d H' => W c d σ H')) ha hb).run pins s σ H Q I ?_
  refine tM.mono (fun v H1 ⟨μ, M, ρ, d, r, e, q, a1⟩ => ?_) (tM.seq (rel := DV X.K) h)
  have a2 := Ans.bind (rel := DV X.K) a1
  refine ⟨μ, M, ρ, r, e, a2.mono (fun u H2 ⟨μ1, M1, d1, l, r1, q1, a3⟩ => ⟨μ1, M1, d, d1, r1, q.lift l, q1, a3⟩) fun _ _ _ z => z⟩
theorem me_cmp {op : CmpOp} {g : F2} (ho : OpM X (compareOp op) g) (ha : ME X W a fa) (hb : ME X W b fb) (hm : behindInMarks op b = false) : ME X W (.Compare a [op] [b] pos) (e2 g fa fb) := by
  refine ⟨fun pins s σ H Q I h => ?_⟩
  refine (pe_cmpR (ho (fun c d H' => W c d σ H')) ha hb hm).run pins s σ H Q I ?_
  refine tM.mono (fun v H1 ⟨μ, M, ρ, d, r, e, q, a1⟩ => ?_) (tM.seq (rel := DV X.K) h)
  have a2 := Ans.bind (rel := DV X.K) a1
  refine ⟨μ, M, ρ, r, e, a2.mono (fun u H2 ⟨μ1, M1, d1, l, r1, q1, a3⟩ => ⟨μ1, M1, d, d1, r1, q.lift l, q1, a3⟩) fun _ _ _ z => z⟩
theorem me_ix {g : F2} (ho : IxM X g) (ha : ME X W a fa) (hb : ME X W b fb) (hs : PlainIx b) : ME X W (.Subscript a b pos) (e2 g fa fb) := by
  refine ⟨fun pins s σ H Q I h => ?_⟩
  refine (pe_ix (ho (fun c d H' => W c d σ H')) ha hb hs).run pins s σ H Q I ?_
  refine tM.mono (fun v H1 ⟨μ, M, ρ, d, r, e, q, a1⟩ => ?_) (tM.seq (rel := DV X.K) h)
  have a2 := Ans.bind (rel := DV X.K) a1
  refine ⟨μ, M, ρ, r, e, a2.mono (fun u H2 ⟨μ1, M1, d1, l, r1, q1, a3⟩ => ⟨μ1, M1, d, d1, r1, q.lift l, q1, a3⟩) fun _ _ _ z => z⟩
theorem me_un {op : UnaryOp} {g : F1} (ho : UnM X (unaryOp op) g) (ha : ME X W a fa) : ME X W (.UnaryOp op a pos) (e1 g fa) := by
  refine ⟨fun pins s σ H Q I h => ?_⟩
  refine (pe_un (ho (fun c d H' => W c d σ H')) ha).run pins s σ H Q I ?_
  exact tM.mono (fun v H1 ⟨μ, M, ρ, d, r, e, q, a1⟩ => ⟨μ, M, d, r, q, a1⟩) (tM.seq (rel := DV X.K) h)
theorem ma_nil : MA X W [] aN := PA.weak pa_nil fun σ H Q ⟨μ, M, ρ, r, e, q⟩ => q μ H [] (Lift.refl ..) r DVs.nil
theorem ma_cons (ha : ME X W a fa) (hr : MA X W es g) (hs : starEach (a :: es) X.env = (false, eval a X.env) :: starEach es X.env := by rfl) : MA X W (a :: es) (aC fa g) := by
  refine PA.weak (pa_cons ha hr hs) fun σ H Q h => ?_
  refine tM.mono (fun v H1 ⟨μ, M, ρ, d, r, e, q, a1⟩ => ?_) (tM.seq (rel := DV X.K) h)
  have a2 := Ans.bind (rel := DVs X.K) a1
  refine ⟨μ, M, ρ, r, e, a2.mono (fun u H2 ⟨μ1, M1, d1, l, r1, q1, a3⟩ => ?_) fun _ _ _ z => z⟩
  exact a3 μ1 H2 _ (Lift.refl ..) r1 (DVs.cons (q.lift l) q1)
/-- tuples, lists by value, lists of the memory -/
def gTup : FL := fun ds M => if ds.length ≤ sizeLine then .ok (.tup ds) M else .no
def gLst : FL := fun ds M => if ds.length ≤ sizeLine then .ok (.lst ds) M else .no
def gNew : FL := fun ds M => if ds.length ≤ sizeLine then .ok (.ref M.length) (M ++ [.lst ds]) else .no
theorem ans_tup {K : PySem.W.Frag} {μ : Nat → Addr} {M : Mem} {H : Hp} {W : W0} {ds : List D} {vs : List V} {Q : VK} (r : Rel K μ M H) (q : DVs K μ M.length H ds vs) (a : Ans K (DV K) W μ M.length H (.ok (.tup ds) M) Q) (p : Addr) (hp : H p = none) : Q (.ref p) (upd H p (.tup vs)) := by
  refine a μ _ _ (Lift.fresh hp) (r.fresh hp) ?_
  unfold DV
  exact ⟨p, vs, rfl, SqT.of upd_same, q.lift (Lift.fresh hp)⟩
theorem ans_new {K : PySem.W.Frag} {μ : Nat → Addr} {M : Mem} {H : Hp} {W : W0} {ds : List D} {vs : List V} {Q : VK} (r : Rel K μ M H) (q : DVs K μ M.length H ds vs) (a : Ans K (DV K) W μ M.length H (.ok (.ref M.length) (M ++ [.lst ds])) Q) (p : Addr) (hp : H p = none) : Q (.ref p) (upd H p (.lst vs)) := by
  have l : Lift μ M.length H (ext μ M.length p) (M ++ [MO.lst ds]).length (upd H p (.lst vs)) := Lift.alloc hp
  refine a _ _ _ l (r.alloc hp ⟨vs, upd_same, q.lift l⟩) ?_
  unfold DV
  exact ⟨by simp, by unfold ext; rw [if_pos rfl]⟩
theorem me_tup {k : Nat} (h : MA X W es g) : ME X W (.Tuple es k pos) (eL gTup g) := by
  refine PE.weak (pe_tup h) fun σ H Q hw => ?_
  refine tM.mono (fun v H1 ⟨μ, M, ρ, d, r, e, q, a1⟩ => ?_) (tM.seq (rel := DVs X.K) hw)
  unfold gTup at a1
  split at a1
  · rename_i hl
    exact ⟨by rw [q.length]; exact hl, fun p hp => ans_tup r q a1 p hp⟩
  · exact a1.elim
theorem me_new (h : MA X W es g) : ME X W (.List es pos) (eL gNew g) := by
  refine PE.weak (pe_lst h) fun σ H Q hw => ?_
  refine tM.mono (fun v H1 ⟨μ, M, ρ, d, r, e, q, a1⟩ => ?_) (tM.seq (rel := DVs X.K) hw)
  unfold gNew at a1
  split at a1
  · rename_i hl
    exact ⟨by rw [q.length]; exact hl, fun p hp => ans_new r q a1 p hp⟩
  · exact a1.elim
/-- a list is locked for good -/
theorem Inv.lock {pins : List (Addr × Obj)} {σ : L2.St} {H : Hp} {s : Shared} {a : Addr} {xs : List V} (I : Inv X pins σ H s) (h : H a = some (.lst xs)) : ∃ o, Inv X pins σ (upd H a (.frz o (.lst xs))) s := by
  obtain ⟨z, its, n, r, e⟩ := I.hok a _ h
  have mu : Mut (H a) := by rw [h]; trivial
  have J := I.write (x := a) (e := a) (o := .frz { cls := .type "list", data := .seq its.toArray n } (.lst xs)) (h' := s.heap) (t' := s.toks) mu (.inl rfl) (fun b u _ q => q) ⟨_, e⟩ ⟨e, z, its, n, r, e⟩
  exact ⟨_, J⟩
theorem PE.lock {t : TE} (h : PE X e t) : PE X e (fun σ H Q => t σ H fun x H1 => ∃ a xs, x = .ref a ∧ H1 a = some (.lst xs) ∧ ∀ o, Q x (upd H1 a (.frz o (.lst xs)))) := by
  refine ⟨fun pins s σ H Q I hw => thn (h.run pins s σ H _ I hw) fun u s1 ⟨v, H1, I1, rv, a, xs, e1, e2, q⟩ => ?_⟩
  obtain ⟨o, J⟩ := Inv.lock I1 e2
  exact ⟨v, _, J, rv, q o⟩
theorem upd2 {H : Hp} {p : Addr} {o u : HO} : upd (upd H p o) p u = upd H p u := upd_upd
theorem ans_lst {K : PySem.W.Frag} {μ : Nat → Addr} {M : Mem} {H : Hp} {W : W0} {ds : List D} {vs : List V} {Q : VK} (r : Rel K μ M H) (q : DVs K μ M.length H ds vs) (a : Ans K (DV K) W μ M.length H (.ok (.lst ds) M) Q) (p : Addr) (hp : H p = none) (o : Obj) :
    Q (.ref p) (upd (upd H p (.lst vs)) p (.frz o (.lst vs))) := by
  rw [upd_upd]
  refine a μ _ _ (Lift.fresh hp) (r.fresh hp) ?_
  unfold DV
  exact ⟨p, vs, rfl, .inl ⟨o, upd_same⟩, q.lift (Lift.fresh hp)⟩
theorem me_lst (h : MA X W es g) : ME X W (.List es pos) (eL gLst g) := by
  refine PE.weak (PE.lock (pe_lst h)) fun σ H Q hw => ?_
  refine tM.mono (fun v H1 ⟨μ, M, ρ, d, r, e, q, a1⟩ => ?_) (tM.seq (rel := DVs X.K) hw)
  unfold gLst at a1
  split at a1
  · rename_i hl
    exact ⟨by rw [q.length]; exact hl, fun p hp => ⟨p, v, rfl, upd_same, fun o => ans_lst r q a1 p hp o⟩⟩
  · exact a1.elim
/-- a built-in function, a built-in class, called -/
theorem me_cb {x : Str} {id : String} {p : Pos} {h : FL} (hc : CallM X (.builtin id) h) (hg : Gl X x) (hm : X.mg x = none) (hv : bootBuiltins x = some (.builtin id)) (ha : MA X W (e :: es) g) (hn : x ≠ "__name__" := by decide) (hdb : (x == ("__debug__" : Str)) = false := by decide)
    (he : starEach (e :: es) X.env = (false, eval e X.env) :: starEach es X.env := by rfl) (hpl : (backTo pos (starEach es X.env)).any (·.1) = false := by rfl) : ME X W (.Call (.Name x p) (e :: es) [] pos) (eL h g) := by
  refine ⟨fun pins s σ H Q I hw => ?_⟩
  refine (pe_callB (hc (fun c d H' => W c d σ H')) hg hm hv ha hn hdb he hpl).run pins s σ H Q I ?_
  exact tM.mono (fun v H1 ⟨μ, M, ρ, d, r, e, q, a1⟩ => ⟨μ, M, d, r, q, a1⟩) (tM.seq (rel := DVs X.K) hw)
theorem me_ct {x : Str} {T : String} {p : Pos} {h : FL} (hc : CallM X (.type T) h) (hg : Gl X x) (hm : X.mg x = none) (hv : bootBuiltins x = some (.type T)) (ha : MA X W (e :: es) g) (hn : x ≠ "__name__" := by decide) (hdb : (x == ("__debug__" : Str)) = false := by decide)
    (he : starEach (e :: es) X.env = (false, eval e X.env) :: starEach es X.env := by rfl) (hpl : (backTo pos (starEach es X.env)).any (·.1) = false := by rfl) : ME X W (.Call (.Name x p) (e :: es) [] pos) (eL h g) := by
  refine ⟨fun pins s σ H Q I hw => ?_⟩
  refine (pe_callTy (hc (fun c d H' => W c d σ H')) hg hm hv ha hn hdb he hpl).run pins s σ H Q I ?_
  exact tM.mono (fun v H1 ⟨μ, M, ρ, d, r, e, q, a1⟩ => ⟨μ, M, d, r, q, a1⟩) (tM.seq (rel := DVs X.K) hw)
end
end Br
set_option Elab.async false
set_option linter.all false
set_option maxRecDepth 100000
set_option maxHeartbeats 4000000
namespace Br
open PySem PySem.Spec PyProof.Rows L2
/-! ### tests -/
def truD (M : Mem) : D → Option Bool
  | .non => some false
  | .bl b => some b
  | .int i => some (i != 0)
  | .str y => if y.length ≤ sizeLine then some (decide (y.length ≠ 0)) else none
  | .tup xs => some (!xs.isEmpty)
  | .lst xs => some (!xs.isEmpty)
  | .ref n => match M[n]? with
    | some (.lst xs) => some (!xs.isEmpty)
    | some (.dic kvs) => some (!kvs.isEmpty)
    | _ => none
  | _ => none
theorem DVs.empty {K : PySem.W.Frag} {μ : Nat → Addr} {N : Nat} {H : Hp} {ds : List D} {vs : List V} (h : DVs K μ N H ds vs) : vs.isEmpty = ds.isEmpty := by
  have e := h.length
  cases ds <;> cases vs <;> simp_all
theorem KVs.empty {K : PySem.W.Frag} {μ : Nat → Addr} {N : Nat} {H : Hp} {ds : List (Key × D)} {vs : List (Key × V)} (h : KVs K μ N H ds vs) : vs.isEmpty = ds.isEmpty := by
  cases ds with
  | nil => have e : vs = [] := h; rw [e]; rfl
  | cons d ds => obtain ⟨v, r, e, _⟩ := h; rw [e]; rfl
theorem truD_ok {K : PySem.W.Frag} {μ : Nat → Addr} {M : Mem} {H : Hp} {d : D} {v : V} {b : Bool} (r : Rel K μ M H) (q : DV K μ M.length H d v) (h : truD M d = some b) : TruV K v H b := by
  cases d with
  | non => unfold DV at q; subst q; cases h; rfl
  | bl c => unfold DV at q; subst q; cases h; rfl
  | int i => unfold DV at q; subst q; cases h; rfl
  | str y =>
    unfold DV at q; subst q
    unfold truD at h
    dsimp only at h
    split at h
    · rename_i hl
      cases h
      refine ⟨hl, ?_⟩
      rw [Bool.eq_iff_iff]
      simp
    · cases h
  | tup xs =>
    unfold DV at q
    obtain ⟨a, ys, e, s, t⟩ := q
    subst e; cases h
    exact .inr (.inl ⟨ys, s, by rw [t.empty]⟩)
  | lst xs =>
    unfold DV at q
    obtain ⟨a, ys, e, s, t⟩ := q
    subst e; cases h
    exact .inl ⟨ys, s.seq, by rw [t.empty]⟩
  | ref n =>
    unfold DV at q
    obtain ⟨hn, e⟩ := q
    subst e
    unfold truD at h
    dsimp only at h
    split at h
    · rename_i xs hx
      cases h
      obtain ⟨ys, e1, e2⟩ := r.obj n _ hx
      exact .inl ⟨ys, SqL.of e1, by rw [e2.empty]⟩
    · rename_i xs hx
      cases h
      obtain ⟨ys, e1, e2⟩ := r.obj n _ hx
      exact .inr (.inr ⟨ys, e1, by rw [e2.empty]⟩)
    · cases h
  | gl x => cases h
  | ty t => cases h
def tT (f : FE) : FT := fun ρ M => (f ρ M).bind fun d M1 => match truD M1 d with
  | some b => .ok b M1
  | none => .no
def tNot (t : FT) : FT := fun ρ M => (t ρ M).bind fun b M1 => .ok (!b) M1
def tAnd (t u : FT) : FT := fun ρ M => (t ρ M).bind fun b M1 => if b = true then u ρ M1 else .ok false M1
def tOr (t u : FT) : FT := fun ρ M => (t ρ M).bind fun b M1 => if b = true then .ok true M1 else u ρ M1
def eAnd (a b : FE) : FE := fun ρ M => (a ρ M).bind fun x M1 => match truD M1 x with
  | some true => b ρ M1
  | some false => .ok x M1
  | none => .no
def eOr (a b : FE) : FE := fun ρ M => (a ρ M).bind fun x M1 => match truD M1 x with
  | some true => .ok x M1
  | some false => b ρ M1
  | none => .no
def eNot (a : FE) : FE := fun ρ M => (a ρ M).bind fun x M1 => match truD M1 x with
  | some b => .ok (.bl (!b)) M1
  | none => .no
def eIf (t : FT) (a b : FE) : FE := fun ρ M => (t ρ M).bind fun c M1 => if c = true then a ρ M1 else b ρ M1
def MW (X : Cx) (W : WX) (e : Expr) (f : FT) : Prop := PW X e (tM X.K BV W f)
section
variable {X : Cx} {W : WX} {e a b c : Expr} {es rest : List Expr} {f fa fb : FE} {ft fu : FT} {g : FA} {pos : Pos}
theorem PW.weak {t t' : TT} (h : PW X e t) (w : ∀ σ H Q, t' σ H Q → t σ H Q) : PW X e t' := ⟨fun wh pins s σ H Q I hw => h.run wh pins s σ H Q I (w σ H Q hw)⟩
theorem mt_tru (ha : ME X W a fa) (he : ∀ whole, isTrue a X.env whole = (do let v ← whole; standAt a.pos; holding [v] (truthy v)) := by intro _; rfl) : MT X W a (tT fa) := by
  refine PT.weak (pt_truth ha he) fun σ H Q h => ?_
  refine tM.mono (fun v H1 ⟨μ, M, ρ, d, r, e, q, a1⟩ => ?_) (tM.seq (rel := DV X.K) h)
  cases hd : truD M d with
  | none => rw [hd] at a1; exact a1.elim
  | some k =>
    rw [hd] at a1
    exact ⟨k, truD_ok r q hd, a1 μ H1 k (Lift.refl ..) r rfl⟩
theorem mw_and1 (ha : MT X W a ft) : MW X W (.BoolOp .And [a] pos) ft := pw_and1 ha
theorem mw_or1 (ha : MT X W a ft) : MW X W (.BoolOp .Or [a] pos) ft := pw_or1 ha
theorem mw_and (ha : MT X W a ft) (hb : MW X W (.BoolOp .And (b :: rest) pos) fu) : MW X W (.BoolOp .And (a :: b :: rest) pos) (tAnd ft fu) := by
  refine PW.weak (pw_and ha hb) fun σ H Q h => ?_
  refine tM.mono (fun v H1 ⟨μ, M, ρ, d, r, e, q, a1⟩ => ?_) (tM.seq (rel := BV) h)
  have q' : d = v := q
  subst q'
  cases d with
  | true => exact ⟨μ, M, ρ, r, e, a1⟩
  | false => exact a1 μ H1 false (Lift.refl ..) r rfl
theorem mw_or (ha : MT X W a ft) (hb : MW X W (.BoolOp .Or (b :: rest) pos) fu) : MW X W (.BoolOp .Or (a :: b :: rest) pos) (tOr ft fu) := by
  refine PW.weak (pw_or ha hb) fun σ H Q h => ?_
  refine tM.mono (fun v H1 ⟨μ, M, ρ, d, r, e, q, a1⟩ => ?_) (tM.seq (rel := BV) h)
  have q' : d = v := q
  subst q'
  cases d with
  | false => exact ⟨μ, M, ρ, r, e, a1⟩
  | true => exact a1 μ H1 true (Lift.refl ..) r rfl
theorem mt_w (h : MW X W e ft) : MT X W e ft := PW.pt h
theorem mt_not (ha : MT X W a ft) : MT X W (.UnaryOp .Not a pos) (tNot ft) := by
  refine PT.weak (pt_not ha) fun σ H Q h => ?_
  refine tM.mono (fun v H1 ⟨μ, M, ρ, d, r, e, q, a1⟩ => ?_) (tM.seq (rel := BV) h)
  have q' : d = v := q
  subst q'
  exact a1 μ H1 _ (Lift.refl ..) r rfl
theorem me_and1 {op : BoolOp} (ha : ME X W a fa) : ME X W (.BoolOp op [a] pos) fa := pe_one ha
theorem me_and (ha : ME X W a fa) (hb : ME X W (.BoolOp .And (b :: rest) pos) fb) : ME X W (.BoolOp .And (a :: b :: rest) pos) (eAnd fa fb) := by
  refine PE.weak (pe_andT ha hb) fun σ H Q h => ?_
  refine tM.mono (fun v H1 ⟨μ, M, ρ, d, r, e, q, a1⟩ => ?_) (tM.seq (rel := DV X.K) h)
  cases hd : truD M d with
  | none => rw [hd] at a1; exact a1.elim
  | some k =>
    rw [hd] at a1
    refine ⟨k, truD_ok r q hd, ?_⟩
    cases k with
    | true => exact ⟨μ, M, ρ, r, e, a1⟩
    | false => exact a1 μ H1 v (Lift.refl ..) r q
theorem me_or (ha : ME X W a fa) (hb : ME X W (.BoolOp .Or (b :: rest) pos) fb) : ME X W (.BoolOp .Or (a :: b :: rest) pos) (eOr fa fb) := by
  refine PE.weak (pe_orT ha hb) fun σ H Q h => ?_
  refine tM.mono (fun v H1 ⟨μ, M, ρ, d, r, e, q, a1⟩ => ?_) (tM.seq (rel := DV X.K) h)
  cases hd : truD M d with
  | none => rw [hd] at a1; exact a1.elim
  | some k =>
    rw [hd] at a1
    refine ⟨k, truD_ok r q hd, ?_⟩
    cases k with
    | false => exact ⟨μ, M, ρ, r, e, a1⟩
    | true => exact a1 μ H1 v (Lift.refl ..) r q
theorem me_not (ha : ME X W a fa) : ME X W (.UnaryOp .Not a pos) (eNot fa) := by
  refine PE.weak (pe_notT ha) fun σ H Q h => ?_
  refine tM.mono (fun v H1 ⟨μ, M, ρ, d, r, e, q, a1⟩ => ?_) (tM.seq (rel := DV X.K) h)
  cases hd : truD M d with
  | none => rw [hd] at a1; exact a1.elim
  | some k =>
    rw [hd] at a1
    exact ⟨k, truD_ok r q hd, a1 μ H1 _ (Lift.refl ..) r (by unfold DV; rfl)⟩
theorem me_if (ht : MT X W c ft) (ha : ME X W a fa) (hb : ME X W b fb) : ME X W (.IfExp c a b pos) (eIf ft fa fb) := by
  refine PE.weak (pe_ifExp ht ha hb) fun σ H Q h => ?_
  refine tM.mono (fun v H1 ⟨μ, M, ρ, d, r, e, q, a1⟩ => ?_) (tM.seq (rel := BV) h)
  have q' : d = v := q
  subst q'
  cases d with
  | true => exact ⟨μ, M, ρ, r, e, a1⟩
  | false => exact ⟨μ, M, ρ, r, e, a1⟩
end
/-! ### statements -/
inductive SR where
  | go (f : Fl) (ρ : En) (M : Mem) | ex (e : Exn) (ρ : En) (M : Mem) | no
abbrev FStm := En → Mem → SR
section
variable (K : PySem.W.Frag)
def AnsS (W : WX) (μ : Nat → Addr) (N : Nat) (H : Hp) (r : SR) (D : Ends) : Prop := match r with
  | .go .nx ρ' M' => ∀ μ' H' σ', Lift μ N H μ' M'.length H' → Rel K μ' M' H' → EV K μ' M'.length H' ρ' σ' → D.nx σ' H'
  | .go .bk ρ' M' => ∀ μ' H' σ', Lift μ N H μ' M'.length H' → Rel K μ' M' H' → EV K μ' M'.length H' ρ' σ' → D.bk σ' H'
  | .go .ct ρ' M' => ∀ μ' H' σ', Lift μ N H μ' M'.length H' → Rel K μ' M' H' → EV K μ' M'.length H' ρ' σ' → D.ct σ' H'
  | .go (.ret d) ρ' M' => ∀ μ' H' v, Lift μ N H μ' M'.length H' → Rel K μ' M' H' → DV K μ' M'.length H' d v → D.rt v H'
  | .ex e ρ' M' => ∀ μ' H' σ' cls dd, Lift μ N H μ' M'.length H' → Rel K μ' M' H' → EV K μ' M'.length H' ρ' σ' → XV K μ' M'.length H' e cls dd → W cls dd σ' H'
  | .no => False
def tSt (W : WX) (g : FStm) : TS := fun D σ H => ∃ μ M ρ, Rel K μ M H ∧ EV K μ M.length H ρ σ ∧ AnsS K W μ M.length H (g ρ M) D
end
def MS (X : Cx) (W : WX) (st : Stmt) (g : FStm) : Prop := PS X st (tSt X.K W g)
def MSs (X : Cx) (W : WX) (st : List Stmt) (g : FStm) : Prop := PSs X st (tSt X.K W g)
/-- an expression in a statement -/
def SR.of {α : Type} (r : R α) (ρ : En) (k : α → Mem → SR) : SR := match r with
  | .ok a M => k a M
  | .ex e M => .ex e ρ M
  | .no => .no
def SR.then (r : SR) (k : En → Mem → SR) : SR := match r with
  | .go .nx ρ M => k ρ M
  | r => r
def sNx : FStm := fun ρ M => .go .nx ρ M
def sSeq (a b : FStm) : FStm := fun ρ M => (a ρ M).then b
def sDrop (a : FE) : FStm := fun ρ M => SR.of (a ρ M) ρ fun _ M1 => .go .nx ρ M1
def sRet (a : FE) : FStm := fun ρ M => SR.of (a ρ M) ρ fun d M1 => .go (.ret d) ρ M1
def sRetN : FStm := fun ρ M => .go (.ret .non) ρ M
def sIf (t : FT) (a b : FStm) : FStm := fun ρ M => SR.of (t ρ M) ρ fun c M1 => if c = true then a ρ M1 else b ρ M1
def sBk : FStm := fun ρ M => .go .bk ρ M
def sCt : FStm := fun ρ M => .go .ct ρ M
/-- a target takes a value -/
abbrev FG := D → FStm
def gN (i : Nat) : FG := fun d ρ M => .go .nx (ρ.set i (some d)) M
def sAsg (a : FE) (g : FG) : FStm := fun ρ M => SR.of (a ρ M) ρ fun d M1 => g d ρ M1
section
variable {K : PySem.W.Frag} {α β : Type} {rel : (Nat → Addr) → Nat → Hp → α → β → Prop} {W : WX} {μ μ1 : Nat → Addr} {N N1 : Nat} {H H1 : Hp} {σ : L2.St}
theorem AnsS.rebase {r : SR} {D : Ends} (l : Lift μ N H μ1 N1 H1) (h : AnsS K W μ N H r D) : AnsS K W μ1 N1 H1 r D := by
  cases r with
  | go f ρ M =>
    cases f with
    | nx => exact fun μ' H' σ' l' r' q => h μ' H' σ' (l.trans l') r' q
    | bk => exact fun μ' H' σ' l' r' q => h μ' H' σ' (l.trans l') r' q
    | ct => exact fun μ' H' σ' l' r' q => h μ' H' σ' (l.trans l') r' q
    | ret d => exact fun μ' H' v l' r' q => h μ' H' v (l.trans l') r' q
  | ex e ρ M => exact fun μ' H' σ' c d l' r' q => h μ' H' σ' c d (l.trans l') r' q
  | no => exact h
theorem AnsS.then {r : SR} {k : FStm} {D : Ends} (h : AnsS K W μ N H (r.then k) D) : AnsS K W μ N H r { D with nx := tSt K W k D } := by
  cases r with
  | go f ρ M =>
    cases f with
    | nx => exact fun μ' H' σ' l' r' q => ⟨μ', M, ρ, r', q, AnsS.rebase l' h⟩
    | bk => exact h
    | ct => exact h
    | ret d => exact h
  | ex e ρ M => exact h
  | no => exact h
theorem tSt.expr {f : En → Mem → R α} {k : En → α → Mem → SR} {D : Ends} (h : tSt K W (fun ρ M => SR.of (f ρ M) ρ (k ρ)) D σ H) :
    tM K rel W f σ H (fun v H1 => ∃ μ M ρ d, Rel K μ M H1 ∧ EV K μ M.length H1 ρ σ ∧ rel μ M.length H1 d v ∧ AnsS K W μ M.length H1 (k ρ d M) D) := by
  obtain ⟨μ, M, ρ, r, e, a⟩ := h
  refine ⟨μ, M, ρ, r, e, ?_⟩
  dsimp only at a
  cases hf : f ρ M with
  | ok d M1 =>
    rw [hf] at a
    exact fun μ' H' v l r' q => ⟨μ', M1, ρ, d, r', e.lift l, q, AnsS.rebase l a⟩
  | ex x M1 =>
    rw [hf] at a
    exact fun μ' H' c d l r' q => a μ' H' σ c d l r' (e.lift l) q
  | no => rw [hf] at a; exact a
end
def MG (X : Cx) (W : WX) (t : Expr) (g : FG) : Prop := PG X t (fun v σ H Q => ∃ μ M ρ d, Rel X.K μ M H ∧ EV X.K μ M.length H ρ σ ∧ DV X.K μ M.length H d v ∧
  AnsS X.K W μ M.length H (g d ρ M) { nx := Q, rt := fun _ _ => False })
section
variable {X : Cx} {W : WX} {st : Stmt} {sts : List Stmt} {e c tg : Expr} {f : FE} {ft : FT} {g g1 g2 : FStm} {gg : FG} {pos : Pos}
theorem mss_nil : MSs X W [] sNx := PSs.weak pss_nil fun D σ H ⟨μ, M, ρ, r, e, a⟩ => a μ H σ (Lift.refl ..) r e
theorem mss_cons (h1 : MS X W st g1) (h2 : MSs X W sts g2) : MSs X W (st :: sts) (sSeq g1 g2) := by
  refine PSs.weak (pss_cons h1 h2) fun D σ H ⟨μ, M, ρ, r, e, a⟩ => ?_
  exact ⟨μ, M, ρ, r, e, AnsS.then a⟩
theorem mss_one (h1 : MS X W st g1) : MSs X W [st] g1 := pss_one h1
theorem ms_pass : MS X W (.Pass pos) sNx := PS.weak ps_pass fun D σ H ⟨μ, M, ρ, r, e, a⟩ => a μ H σ (Lift.refl ..) r e
theorem ms_break : MS X W (.Break pos) sBk := PS.weak ps_break fun D σ H ⟨μ, M, ρ, r, e, a⟩ => a μ H σ (Lift.refl ..) r e
theorem ms_cont : MS X W (.Continue pos) sCt := PS.weak ps_continue fun D σ H ⟨μ, M, ρ, r, e, a⟩ => a μ H σ (Lift.refl ..) r e
theorem ms_doc {x : Str} {j : Nat} {pos' : Pos} : MS X W (.Expr (.Constant (.str x) j pos) pos') sNx := PS.weak ps_doc fun D σ H ⟨μ, M, ρ, r, e, a⟩ => a μ H σ (Lift.refl ..) r e
theorem ms_expr (he : ME X W e f) (hs : swapsWith e none pos.line X.env = pure false := by rfl) : MS X W (.Expr e pos) (sDrop f) := by
  refine PS.weak (ps_expr he hs) fun D σ H h => ?_
  exact tM.mono (fun v H1 ⟨μ, M, ρ, d, r, e, q, a⟩ => a μ H1 σ (Lift.refl ..) r e) (tSt.expr (rel := DV X.K) h)
theorem ms_ret (he : ME X W e f) : MS X W (.Return (some e) pos) (sRet f) := by
  refine PS.weak (ps_ret he) fun D σ H h => ?_
  exact tM.mono (fun v H1 ⟨μ, M, ρ, d, r, e, q, a⟩ => a μ H1 v (Lift.refl ..) r q) (tSt.expr (rel := DV X.K) h)
theorem ms_retN : MS X W (.Return none pos) sRetN := PS.weak ps_retN fun D σ H ⟨μ, M, ρ, r, e, a⟩ => a μ H .non (Lift.refl ..) r (by unfold DV; rfl)
theorem ms_if {a b : List Stmt} (hc : MT X W c ft) (ha : MSs X W a g1) (hb : MSs X W b g2) : MS X W (.If c a b pos) (sIf ft g1 g2) := by
  refine PS.weak (ps_if hc ha hb) fun D σ H h => ?_
  refine tM.mono (fun v H1 ⟨μ, M, ρ, d, r, e, q, a⟩ => ?_) (tSt.expr (rel := BV) h)
  have q' : d = v := q
  subst q'
  cases d with
  | true => exact ⟨μ, M, ρ, r, e, a⟩
  | false => exact ⟨μ, M, ρ, r, e, a⟩
theorem mg_n (i : Nat) {x : Str} (hN : X.N.Nodup) (hi : X.N[i]? = some x) (hx : Loc X.env.scope x) (hf : X.fn x = true ∨ X.env.scope.names.lookup x = some .local := by first | exact .inl rfl | exact .inr rfl | assumption) : MG X W (.Name x pos) (gN i) :=
  ⟨fun pins s σ H v u Q I rv ⟨μ, M, ρ, d, r, e, q, a⟩ => (pg_name hN hi hx hf).run pins s σ H v u Q I rv (a μ H _ (Lift.refl ..) r (e.set q i))⟩
theorem ms_asg (he : ME X W e f) (hg : MG X W tg gg) (hs : swapsWithSole [tg] e pos.line X.env = pure false := by rfl) (hw : swappedStores [tg] e X.env = pure none := by rfl)
    (h1 : (assignEach [tg] X.env).map (·.2) = [assign tg X.env] := by rfl) (hnb : ∀ d ρ M, ∃ ρ' M', gg d ρ M = .go .nx ρ' M' ∨ gg d ρ M = .no := by intros; exact ⟨_, _, .inl rfl⟩) : MS X W (.Assign [tg] e pos) (sAsg f gg) := by
  refine PS.weak (ps_asg he hg hs hw h1) fun D σ H h => ?_
  refine tM.mono (fun v H1 ⟨μ, M, ρ, d, r, e, q, a⟩ => ⟨μ, M, ρ, d, r, e, q, ?_⟩) (tSt.expr (rel := DV X.K) h)
  obtain ⟨ρ', M', z⟩ := hnb d ρ M
  rcases z with z | z
  · rw [z] at a ⊢; exact a
  · rw [z] at a ⊢; exact a
theorem ms_set (i : Nat) {x : Str} {pos' : Pos} (hN : X.N.Nodup) (hi : X.N[i]? = some x) (hx : Loc X.env.scope x) (he : ME X W e f) (hs : swapsWith e (some (.Name x pos')) pos.line X.env = pure false := by rfl)
    (hf : X.fn x = true ∨ X.env.scope.names.lookup x = some .local := by first | exact .inl rfl | exact .inr rfl | assumption) : MS X W (.Assign [.Name x pos'] e pos) (sAsg f (gN i)) := by
  refine PS.weak (ps_set hN hi hx he hs hf) fun D σ H h => ?_
  exact tM.mono (fun v H1 ⟨μ, M, ρ, d, r, e, q, a⟩ => a μ H1 _ (Lift.refl ..) r (e.set q i)) (tSt.expr (rel := DV X.K) h)
end
/-! ### while -/
def sWhile : Nat → FT → FStm → FStm
  | 0, _, _ => fun _ _ => .no
  | n + 1, c, b => fun ρ M => SR.of (c ρ M) ρ fun k M1 => if k = true then (match b ρ M1 with
      | .go .nx ρ' M' => sWhile n c b ρ' M'
      | .go .ct ρ' M' => sWhile n c b ρ' M'
      | .go .bk ρ' M' => .go .nx ρ' M'
      | r => r) else .go .nx ρ M1
section
variable {X : Cx} {W : WX} {c : Expr} {body : List Stmt} {ft : FT} {g : FStm} {pos : Pos}
theorem ms_while (n : Nat) (hp : PassesOwn (model X.prog X.w) X.A X.env X.xe) (hc : MT X W c ft) (hb : MSs X W body g) : MS X W (.While c body [] pos) (sWhile n ft g) := by
  refine PS.weak (ps_while hp hc hb) fun D σ H h => ?_
  refine ⟨fun m σ H => tSt X.K W (sWhile m ft g) D σ H, ⟨n, h⟩, fun m σ H hw => ?_⟩
  cases m with
  | zero => obtain ⟨_, _, _, _, _, z⟩ := hw; exact z.elim
  | succ m =>
    refine tM.mono (fun v H1 ⟨μ, M, ρ, d, r, e, q, a⟩ => ?_) (tSt.expr (rel := BV) hw)
    have q' : d = v := q
    subst q'
    cases d with
    | false => exact a μ H1 σ (Lift.refl ..) r e
    | true =>
      refine ⟨fun σ' H' => tSt X.K W (sWhile m ft g) D σ' H', fun σ' H' z => ⟨m, Nat.lt_succ_self m, z⟩, μ, M, ρ, r, e, ?_⟩
      rw [if_pos rfl] at a
      cases hg : g ρ M with
      | go f ρ' M' =>
        rw [hg] at a
        cases f with
        | nx => exact fun μ' H' σ' l' r' q => ⟨μ', M', ρ', r', q, AnsS.rebase l' a⟩
        | ct => exact fun μ' H' σ' l' r' q => ⟨μ', M', ρ', r', q, AnsS.rebase l' a⟩
        | bk => exact a
        | ret d => exact a
      | ex x ρ' M' => rw [hg] at a; exact a
      | no => rw [hg] at a; exact a.elim
end
/-! ### for -/
/-- one turn: the target, the body -/
def turn (gg : FG) (b : FStm) (x : D) (k : En → Mem → SR) : FStm := fun ρ M => match gg x ρ M with
  | .go .nx ρ1 M1 => (match b ρ1 M1 with
    | .go .nx ρ' M' => k ρ' M'
    | .go .ct ρ' M' => k ρ' M'
    | .go .bk ρ' M' => .go .nx ρ' M'
    | r => r)
  | _ => .no
def sFor (gg : FG) (b : FStm) : List D → FStm
  | [] => fun ρ M => .go .nx ρ M
  | x :: xs => turn gg b x (sFor gg b xs)
/-- over the n-th list of the memory, from place i on, as it stands at each turn; at most m turns -/
def sForL (gg : FG) (b : FStm) (n : Nat) : Nat → Nat → FStm
  | 0, _ => fun _ _ => .no
  | m + 1, i => fun ρ M => match M[n]? with
    | some (.lst ds) => (match ds[i]? with
      | none => .go .nx ρ M
      | some x => turn gg b x (sForL gg b n m (i + 1)) ρ M)
    | _ => .no
/-- a walked thing by data: a list of items, or a list of the memory -/
inductive Wk where
  | items (ds : List D) | obj (n : Nat)
def sForW (m : Nat) (w : Wk) (gg : FG) (b : FStm) : FStm := match w with
  | .items ds => sFor gg b ds
  | .obj n => sForL gg b n m 0
def wkOf (M : Mem) : D → Option Wk
  | .tup ds => some (.items ds)
  | .lst ds => some (.items ds)
  | .ref n => (match M[n]? with
    | some (.lst _) => some (.obj n)
    | _ => none)
  | _ => none
/-- what a for walks: the walk J over data w -/
def WkR (K : PySem.W.Frag) (μ : Nat → Addr) (N : Nat) (H : Hp) (w : Wk) (J : It) : Prop := match w with
  | .items ds => ∀ μ' N' H', Lift μ N H μ' N' H' → J.stop ds.length H' ∧ ∀ (i : Nat) d, ds[i]? = some d → J.go i H' ∧ ∀ M x H2, Rel K μ' M H' → M.length = N' → J.yld i H' x H2 → Rel K μ' M H2 ∧ Lift μ' N' H' μ' N' H2 ∧ DV K μ' N' H2 d x
  | .obj n => n < N ∧ J = Itl K (μ n)
theorem wk_tup {K : PySem.W.Frag} {μ : Nat → Addr} {N : Nat} {H : Hp} {ds : List D} {vs : List V} {a : Addr} (q : DVs K μ N H ds vs) (s : SqT K H a vs) : WkR K μ N H (.items ds) (Itt K a) := by
  intro μ' N' H' l
  have s' := l.kp.sqT s
  have q' := q.lift l
  refine ⟨⟨vs, s', by rw [q.length]; exact Nat.le_refl _⟩, fun i d hd => ?_⟩
  obtain ⟨v, hv, dv⟩ := q'.get hd
  refine ⟨⟨vs, v, s', hv⟩, fun M x H2 r e y => ?_⟩
  obtain ⟨e1, y⟩ := y
  subst e1
  have e2 := y vs s'
  rw [hv] at e2
  cases e2
  exact ⟨r, Lift.refl .., dv⟩
theorem wk_lst {K : PySem.W.Frag} {μ : Nat → Addr} {N : Nat} {H : Hp} {ds : List D} {vs : List V} {a : Addr} (q : DVs K μ N H ds vs) (s : SqF K H a vs) : WkR K μ N H (.items ds) (Itl K a) := by
  intro μ' N' H' l
  have s' := (l.kp.sqF s).seq
  have q' := q.lift l
  refine ⟨⟨vs, s', by rw [q.length]; exact Nat.le_refl _⟩, fun i d hd => ?_⟩
  obtain ⟨v, hv, dv⟩ := q'.get hd
  refine ⟨⟨vs, v, s', hv⟩, fun M x H2 r e y => ?_⟩
  obtain ⟨e1, y⟩ := y
  subst e1
  have e2 := y vs s'
  rw [hv] at e2
  cases e2
  exact ⟨r, Lift.refl .., dv⟩
def rangeD (lo : Int) (n : Nat) : List D := (List.range n).map fun (i : Nat) => D.int (lo + (i : Int))
theorem wk_range {K : PySem.W.Frag} {μ : Nat → Addr} {N : Nat} {H : Hp} (lo : Int) (n : Nat) : WkR K μ N H (.items (rangeD lo n)) (Itr lo n) := by
  intro μ' N' H' l
  refine ⟨by show n ≤ _; simp [rangeD], fun i d hd => ?_⟩
  have hi : i < n := by
    have := (List.getElem?_eq_some_iff.mp hd).1
    simpa [rangeD] using this
  have e : d = .int (lo + (i : Int)) := by
    simp [rangeD, hi] at hd
    exact hd.symm
  subst e
  refine ⟨hi, fun M x H2 r e y => ?_⟩
  obtain ⟨e1, y⟩ := y
  subst e1
  exact ⟨r, Lift.refl .., by unfold DV; exact y⟩
def MI (X : Cx) (W : WX) (tg iter : Expr) (fw : En → Mem → R Wk) : Prop := PI X tg iter (tM X.K (WkR X.K) W fw)
def wIt (f : FE) : En → Mem → R Wk := fun ρ M => (f ρ M).bind fun d M1 => match wkOf M1 d with
  | some w => .ok w M1
  | none => .no
def sForE (m : Nat) (fw : En → Mem → R Wk) (gg : FG) (b : FStm) : FStm := fun ρ M => SR.of (fw ρ M) ρ fun w M1 => sForW m w gg b ρ M1
section
variable {X : Cx} {W : WX} {tg iter : Expr} {body : List Stmt} {fw : En → Mem → R Wk} {gg : FG} {g : FStm} {pos : Pos}
theorem PI.weak {t t' : TI} (h : PI X tg iter t) (w : ∀ σ H Q, t' σ H Q → t σ H Q) : PI X tg iter t' := ⟨fun pins s σ H Q I hw => h.run pins s σ H Q I (w σ H Q hw)⟩
theorem ms_for (m : Nat) (hp : PassesOwn (model X.prog X.w) X.A X.env X.xe) (hc : X.calm = true) (hi : MI X W tg iter fw) (hg : MG X W tg gg) (hb : MSs X W body g)
    (hs : ∀ x, foldedSetIterable iter X.env x = pure x := by intro _; rfl) : MS X W (.For tg iter body [] pos) (sForE m fw gg g) := by
  refine PS.weak (ps_for hp hc hi hg hb hs) fun D σ H h => ?_
  refine tM.mono (fun J H1 ⟨μ, M, ρ, w, r, e, q, a⟩ => ?_) (tSt.expr (rel := WkR X.K) h)
  cases w with
  | items ds =>
    refine ⟨fun i m σ' H' => m = ds.length - i ∧ i ≤ ds.length ∧ ∃ μ' M' ρ', Lift μ M.length H1 μ' M'.length H' ∧ Rel X.K μ' M' H' ∧ EV X.K μ' M'.length H' ρ' σ' ∧ AnsS X.K W μ' M'.length H' (sFor gg g (ds.drop i) ρ' M') D,
      ⟨_, rfl, Nat.zero_le _, μ, M, ρ, Lift.refl .., r, e, a⟩, ?_⟩
    rintro i m' σ' H' ⟨rfl, hi, μ', M', ρ', l, r', e', a'⟩
    obtain ⟨h1, h2⟩ := q μ' M'.length H' l
    by_cases hlt : i < ds.length
    · have hd : ds[i]? = some ds[i] := by simp [hlt]
      obtain ⟨h3, h4⟩ := h2 i ds[i] hd
      refine .inr ⟨h3, fun σ2 H2 => ∃ m', m' < ds.length - i ∧ (m' = ds.length - (i + 1) ∧ i + 1 ≤ ds.length ∧ ∃ μ' M' ρ', Lift μ M.length H1 μ' M'.length H2 ∧ Rel X.K μ' M' H2 ∧ EV X.K μ' M'.length H2 ρ' σ2 ∧ AnsS X.K W μ' M'.length H2 (sFor gg g (ds.drop (i + 1)) ρ' M') D),
        fun σ2 H2 z => z, fun x H2 y => ?_⟩
      obtain ⟨r2, l2, d2⟩ := h4 M' x H2 r' rfl y
      rw [List.drop_eq_getElem_cons hlt] at a'
      have a2 := AnsS.rebase l2 a'
      -- the turn, told with where it began
      refine ⟨μ', M', ρ', ds[i], r2, e'.lift l2, d2, ?_⟩
      have l3 := l.trans l2
      unfold sFor turn at a2
      cases hg : gg ds[i] ρ' M' with
      | go f ρ1 M1 =>
        rw [hg] at a2
        cases f with
        | nx =>
          refine fun μ1 H3 σ1 l1 r1 q1 => ⟨μ1, M1, ρ1, r1, q1, ?_⟩
          dsimp only at a2
          have a3 := AnsS.rebase l1 a2
          cases hb : g ρ1 M1 with
          | go f ρ2 M2 =>
            rw [hb] at a3
            cases f with
            | nx => exact fun μ4 H4 σ4 l4 r4 q4 => ⟨_, by omega, rfl, hlt, μ4, M2, ρ2, (l3.trans l1).trans l4, r4, q4, AnsS.rebase l4 a3⟩
            | ct => exact fun μ4 H4 σ4 l4 r4 q4 => ⟨_, by omega, rfl, hlt, μ4, M2, ρ2, (l3.trans l1).trans l4, r4, q4, AnsS.rebase l4 a3⟩
            | bk => exact a3
            | ret d => exact a3
          | ex x ρ2 M2 => rw [hb] at a3; exact a3
          | no => rw [hb] at a3; exact a3.elim
        | bk => exact a2.elim
        | ct => exact a2.elim
        | ret d => exact a2.elim
      | ex x ρ1 M1 => rw [hg] at a2; exact a2.elim
      | no => rw [hg] at a2; exact a2.elim
    · have e2 : i = ds.length := by omega
      subst e2
      rw [List.drop_length] at a'
      exact .inl ⟨h1, a' μ' H' σ' (Lift.refl ..) r' e'⟩
  | obj n =>
    obtain ⟨hn, eJ⟩ := q
    subst eJ
    refine ⟨fun i m' σ' H' => ∃ μ' M' ρ', Lift μ M.length H1 μ' M'.length H' ∧ Rel X.K μ' M' H' ∧ EV X.K μ' M'.length H' ρ' σ' ∧ AnsS X.K W μ' M'.length H' (sForL gg g n m' i ρ' M') D, ⟨m, μ, M, ρ, Lift.refl .., r, e, a⟩, ?_⟩
    rintro i m' σ' H' ⟨μ', M', ρ', l, r', e', a'⟩
    cases m' with
    | zero => exact a'.elim
    | succ m' =>
      unfold sForL at a'
      split at a'
      · rename_i ds hds
        obtain ⟨xs, hx, dx⟩ := r'.obj n _ hds
        have eμ : μ' n = μ n := l.same n hn
        rw [eμ] at hx
        split at a'
        · rename_i hnone
          have hl : ds.length ≤ i := List.getElem?_eq_none_iff.mp hnone
          exact .inl ⟨⟨xs, SqL.of hx, by rw [dx.length]; exact hl⟩, a' μ' H' σ' (Lift.refl ..) r' e'⟩
        · rename_i d hd
          obtain ⟨v, hv, dv⟩ := dx.get hd
          refine .inr ⟨⟨xs, v, SqL.of hx, hv⟩, fun σ2 H2 => ∃ μ' M' ρ', Lift μ M.length H1 μ' M'.length H2 ∧ Rel X.K μ' M' H2 ∧ EV X.K μ' M'.length H2 ρ' σ2 ∧ AnsS X.K W μ' M'.length H2 (sForL gg g n m' (i + 1) ρ' M') D, fun σ2 H2 z => ⟨m', Nat.lt_succ_self _, z⟩, fun x H2 y => ?_⟩
          obtain ⟨e1, y⟩ := y
          subst e1
          have e2 := y xs (SqL.of hx)
          rw [hv] at e2
          cases e2
          refine ⟨μ', M', ρ', d, r', e', dv, ?_⟩
          unfold turn at a'
          cases hg : gg d ρ' M' with
          | go f ρ1 M1 =>
            rw [hg] at a'
            cases f with
            | nx =>
              refine fun μ1 H3 σ1 l1 r1 q1 => ⟨μ1, M1, ρ1, r1, q1, ?_⟩
              dsimp only at a'
              have a3 := AnsS.rebase l1 a'
              cases hb : g ρ1 M1 with
              | go f ρ2 M2 =>
                rw [hb] at a3
                cases f with
                | nx => exact fun μ4 H4 σ4 l4 r4 q4 => ⟨μ4, M2, ρ2, (l.trans l1).trans l4, r4, q4, AnsS.rebase l4 a3⟩
                | ct => exact fun μ4 H4 σ4 l4 r4 q4 => ⟨μ4, M2, ρ2, (l.trans l1).trans l4, r4, q4, AnsS.rebase l4 a3⟩
                | bk => exact a3
                | ret d => exact a3
              | ex x ρ2 M2 => rw [hb] at a3; exact a3
              | no => rw [hb] at a3; exact a3.elim
            | bk => exact a'.elim
            | ct => exact a'.elim
            | ret d => exact a'.elim
          | ex x ρ1 M1 => rw [hg] at a'; exact a'.elim
          | no => rw [hg] at a'; exact a'.elim
      · exact a'.elim
end
end Br
set_option Elab.async false
set_option linter.all false
set_option maxRecDepth 100000
set_option maxHeartbeats 4000000
namespace Br
open PySem PySem.Spec PyProof.Rows L2
/-! ### defs -/
/-- what a def's promise says: it gives what m gives -/
def sM (K : PySem.W.Frag) (m : FL) (E : W0) (Q : VK) (vs : List V) (H : Hp) : Prop := ∃ μ M ds, Rel K μ M H ∧ DVs K μ M.length H ds vs ∧ Ans K (DV K) E μ M.length H (m ds M) Q
structure FnM (P : Program) (w : World) (K : PySem.W.Frag) (mg : Str → Option Value) (base : Heap) (k : Nat) (f : Addr) (fd : FuncData) (ps : List Str) (m : FL) : Prop where
  run : ∀ (A : Around) (outer : List Env) (s : Shared) (H : Hp) (args : Args) (Q : VK) (E : XK) (G : List V → Hp → Prop), Room k A → A.guards = some [] → Env0 P w K mg base A outer s H →
    StX.Bnd (L2.CX P w) P w K mg base fd args ps A outer s H E G → (∀ vs H2, G vs H2 → sM K m E Q vs H2) → codeAny (model P w) A (.call (.ref f) args) (CR (L2.CX P w) outer P w H s Q E) s
theorem FnM.mono {P : Program} {w : World} {K : PySem.W.Frag} {mg : Str → Option Value} {base : Heap} {j k : Nat} {f : Addr} {fd : FuncData} {ps : List Str} {m : FL} (F : FnM P w K mg base j f fd ps m) (h : j ≤ k) : FnM P w K mg base k f fd ps m :=
  ⟨fun A outer s H args Q E G hr => F.run A outer s H args Q E G (hr.mono h)⟩
def st0 (n : Nat) (ds : List D) : En := ds.map some ++ List.replicate (n - ds.length) none
def SR.val (r : SR) : R D := match r with
  | .go .nx _ M => .ok .non M
  | .go (.ret d) _ M => .ok d M
  | .go _ _ _ => .no
  | .ex e _ M => .ex e M
  | .no => .no
/-- a body, run -/
def run (b : FStm) (n : Nat) : FL := fun ds M => (b (st0 n ds) M).val
theorem ev_start {K : PySem.W.Frag} {μ : Nat → Addr} {N : Nat} {H : Hp} {ds : List D} {vs : List V} (names : List Str) (q : DVs K μ N H ds vs) : EV K μ N H (st0 names.length ds) (L2.start names vs) := by
  refine ⟨by unfold L2.start st0; simp [q.length], fun i d h => ?_⟩
  unfold st0 at h
  unfold L2.start
  by_cases hi : i < ds.length
  · rw [List.getElem?_append_left (by simpa using hi), List.getElem?_map] at h
    cases e : ds[i]? with
    | none => rw [e] at h; cases h
    | some d' =>
      rw [e] at h; cases h
      obtain ⟨v, hv, dv⟩ := q.get e
      exact ⟨v, by rw [List.getElem?_append_left (by rw [List.length_map, q.length]; exact hi), List.getElem?_map, hv]; rfl, dv⟩
  · rw [List.getElem?_append_right (by simpa using Nat.le_of_not_lt hi), List.getElem?_replicate] at h
    split at h <;> cases h
theorem fnM_of {P : Program} {w : World} {K : PySem.W.Frag} {mg : Str → Option Value} {base : Heap} {k : Nat} {f : Addr} {fd : FuncData} {x qual : Str} {params : Arguments} {body : List Stmt} {scope : Scope} {dvs : List V} {kws : List (Str × V)} {N ps : List Str} {b : FStm}
    (F : FunD K x qual params body scope dvs kws f fd) (S : FnScope N ps scope)
    (hb : ∀ (cdv : Value) (A : Around) (outer : List Env) (s : Shared) (H : Hp) (E : XK), Room k (A.deeper (envOfC qual scope s.heap.objs.size f cdv)) → A.guards = some [] →
      MSs (cxOf (L2.CX P w) P w K mg base N qual scope f cdv A outer s H E) (fun c d _ H' => E c d H') body b) : FnM P w K mg base (k + 1) f fd ps (run b N.length) := by
  obtain ⟨oc, od, dV, kV, doc, pm, an, cdv, ct, osl, rfl, lk, hcd, _, _⟩ := F.ex
  refine ⟨fun A outer s H args Q E G hr hg e0 hbnd hsp => ?_⟩
  refine StX.run_bnd lk hcd S hr e0 hbnd fun s2 H2 vs g hr2 => ⟨_, hb cdv A outer s2 H2 E hr2 hg, ?_⟩
  obtain ⟨μ, M, ds, r, q, a⟩ := hsp vs H2 g
  refine ⟨μ, M, _, r, ev_start N q, ?_⟩
  unfold run at a
  cases hg : b (st0 N.length ds) M with
  | go fl ρ' M' =>
    rw [hg] at a
    cases fl with
    | nx => exact fun μ' H' σ' l r' e' => a μ' H' .non l r' (by unfold DV; rfl)
    | ret d => exact a
    | bk => exact a.elim
    | ct => exact a.elim
  | ex e ρ' M' => rw [hg] at a; exact fun μ' H' σ' c d l r' e' x => a μ' H' c d l r' x
  | no => rw [hg] at a; exact a
section
variable {X : Cx} {W : WX} {k : Nat} {f C : Addr} {fd : FuncData} {ps : List Str} {m : FL}
/-- values that a call adds: defaults -/
structure Dfl (K : PySem.W.Frag) (dd : List D) (dv : List V) : Prop where
  rel : ∀ (μ : Nat → Addr) (N : Nat) (H : Hp), DVs K μ N H dd dv
theorem Dfl.nil {K : PySem.W.Frag} : Dfl K [] [] := ⟨fun _ _ _ => DVs.nil⟩
theorem Dfl.int {K : PySem.W.Frag} {i : Int} {dd : List D} {dv : List V} (h : Dfl K dd dv) : Dfl K (.int i :: dd) (.int i :: dv) := ⟨fun _ _ _ => DVs.cons (by unfold DV; rfl) (h.rel ..)⟩
theorem Dfl.bl {K : PySem.W.Frag} {i : Bool} {dd : List D} {dv : List V} (h : Dfl K dd dv) : Dfl K (.bl i :: dd) (.bl i :: dv) := ⟨fun _ _ _ => DVs.cons (by unfold DV; rfl) (h.rel ..)⟩
/-- how arguments come to parameters: n values by place, keywords ks; gD puts the data in the parameters' order -/
structure AB (P : Program) (w : World) (K : PySem.W.Frag) (mg : Str → Option Value) (base : Heap) (fd : FuncData) (ps : List Str) (n : Nat) (ks : List Str) (gD : List D → List D → List D) : Prop where
  bnd : ∀ (A : Around) (outer : List Env) (s : Shared) (H : Hp) (E : XK) (us ws : List Value) (vs zs : List V) (μ : Nat → Addr) (M : Mem) (ds es : List D), Env0 P w K mg base A outer s H → us.length = n → ws.length = ks.length → Vals vs us → Vals zs ws →
    Rel K μ M H → DVs K μ M.length H ds vs → DVs K μ M.length H es zs →
    StX.Bnd (L2.CX P w) P w K mg base fd ⟨us, ks.zip ws⟩ ps A outer s H E (fun vs' H2 => Rel K μ M H2 ∧ Lift μ M.length H μ M.length H2 ∧ DVs K μ M.length H2 (gD ds es) vs')
section
variable {P : Program} {w : World} {K : PySem.W.Frag} {mg : Str → Option Value} {base : Heap}
theorem Env0.kin (e : Env0 P w K mg base A outer s H) : K.In s.heap := e.mod.kin.keeps fun b o q => (e.bs b o q).1
/-- by place, defaults added -/
theorem AB.of_binds {fd : FuncData} {ps : List Str} {n : Nat} {du : List Value} {dv : List V} {dd : List D} (hb : Binds K fd ps du) (hd : Vals dv du) (hdd : Dfl K dd dv) (hn : n + dd.length = ps.length) : AB P w K mg base fd ps n [] (fun ds _ => ds ++ dd) := by
  refine ⟨fun A outer s H E us ws vs zs μ M ds es e0 l1 l2 rv rz r q qz A' Ex Q k => ?_⟩
  have r2 : Vals (vs ++ dv) (us ++ du) := rv.append hd
  have hl : (vs ++ dv).length = ps.length := by
    rw [List.length_append, rv.length, l1, (hdd.rel μ M.length H).length]; exact hn
  refine hb s us (Env0.kin e0) (by rw [← r2.length]; exact hl) _ _ _ _ ?_
  exact k s H _ _ e0 Un.refl rfl (fun _ _ z => z) r2 hl ⟨r, Lift.refl .., q.append (hdd.rel ..)⟩
theorem AB.of_kbn {fd : FuncData} {ps : List Str} {n : Nat} {ks : List Str} {g : List Value → List Value → List Value} {gV : List V → List V → List V} {gD : List D → List D → List D} (hb : KBn K fd ps n ks g gV)
    (hl : ∀ vs zs : List V, vs.length = n → zs.length = ks.length → (gV vs zs).length = ps.length)
    (hd : ∀ (μ : Nat → Addr) (N : Nat) (H : Hp) (ds : List D) (vs : List V) (es : List D) (zs : List V), DVs K μ N H ds vs → DVs K μ N H es zs → ds.length = n → es.length = ks.length → DVs K μ N H (gD ds es) (gV vs zs)) : AB P w K mg base fd ps n ks gD := by
  refine ⟨fun A outer s H E us ws vs zs μ M ds es e0 l1 l2 rv rz r q qz A' Ex Q k => ?_⟩
  refine hb.to s us ws (Env0.kin e0) l1 l2 _ _ _ _ ?_
  refine k s H _ _ e0 Un.refl rfl (fun _ _ z => z) (hb.rel rv rz) (hl _ _ (rv.length.trans l1) (rz.length.trans l2)) ⟨r, Lift.refl .., hd _ _ _ _ _ _ _ q qz ?_ ?_⟩
  · rw [← q.length, rv.length, l1]
  · rw [← qz.length, rz.length, l2]
/-- def f(a, .., *v): what is left over is a new tuple -/
theorem AB.of_star {fd : FuncData} {ps : List Str} {pv : Str} (n : Nat) (hn : ps.length ≤ n) (hz : n ≤ 1000)
    (hb : ∀ us rest : List Value, us.length = ps.length → bindArgs fd ⟨us ++ rest, []⟩ = (newTuple rest >>= fun t => pure (ps.zip us ++ [(pv, t)]))) : AB P w K mg base fd (ps ++ [pv]) n [] (fun ds _ => ds.take ps.length ++ [.tup (ds.drop ps.length)]) := by
  refine ⟨fun A outer s H E us ws vs zs μ M ds es e0 l1 l2 rv rz r q qz A' Ex Q k => ?_⟩
  have hu : us = us.take ps.length ++ us.drop ps.length := (List.take_append_drop ..).symm
  have hlu : (us.take ps.length).length = ps.length := by rw [List.length_take]; omega
  show wpAny _ _ (bindArgs fd ⟨us, []⟩) _ _ _
  rw [hu, hb _ _ hlu]
  have hld : (us.drop ps.length).length ≤ sizeLine := by
    rw [List.length_drop, l1]
    have : (1000 : Nat) ≤ sizeLine := by decide
    omega
  refine wpAny_bind (wpAny_newObj_type ?_ hld)
  refine wpAny_pure ?_
  have hfr : H s.heap.objs.size = Option.none := e0.hok.fresh (Nat.le_refl _)
  have new : ObjOk P w (upd H s.heap.objs.size (.tup (vs.drop ps.length))) (s.heap.push { cls := .type "tuple", data := .seq (us.drop ps.length).toArray }) s.heap.objs.size (.tup (vs.drop ps.length)) := by
    refine ⟨by rw [List.length_drop, rv.length, ← List.length_drop]; exact hld, us.drop ps.length, rv.drop _, ?_⟩
    exact IsTup.new s.heap _
  have e1 := StX.env0_laid e0 new
  have un : Un (frs outer) [] H (upd H s.heap.objs.size (.tup (vs.drop ps.length))) s.heap (s.heap.push { cls := .type "tuple", data := .seq (us.drop ps.length).toArray }) := StX.un_laid hfr
  have hz : (ps ++ [pv]).zip (us.take ps.length ++ [Value.ref s.heap.objs.size]) = ps.zip (us.take ps.length) ++ [(pv, Value.ref s.heap.objs.size)] := by
    rw [List.zip_append hlu.symm]; rfl
  rw [← hz]
  refine k { s with heap := s.heap.push { cls := .type "tuple", data := .seq (us.drop ps.length).toArray } } _ (vs.take ps.length ++ [V.ref s.heap.objs.size]) _ e1 un rfl (fun e s' z => ?_) ((rv.take _).append (.cons rfl .nil)) ?_ ⟨r.fresh hfr, Lift.fresh hfr, ?_⟩
  · exact StX.cxUp outer s H { s with heap := s.heap.push { cls := .type "tuple", data := .seq (us.drop ps.length).toArray } } (upd H s.heap.objs.size (.tup (vs.drop ps.length))) E e s' un (fun b o q => Heap.get?_push_of_some _ q) rfl z
  · rw [List.length_append, List.length_append, List.length_take, rv.length, l1]
    simp only [List.length_singleton]; omega
  · refine ((q.take _).lift (Lift.fresh hfr)).append (DVs.cons ?_ DVs.nil)
    unfold DV
    exact ⟨_, _, rfl, SqT.of upd_same, (q.drop _).lift (Lift.fresh hfr)⟩
end
/-- a callee runs -/
theorem run_m {pins : List (Addr × Obj)} {σ : L2.St} {H : Hp} {s : Shared} {Q : VK} {us ws : List Value} {vs zs : List V} {n : Nat} {ks : List Str} {gD : List D → List D → List D} {μ : Nat → Addr} {M : Mem} {ds es : List D} (F : FnM X.prog X.w X.K X.mg X.base k f fd ps m) (hab : AB X.prog X.w X.K X.mg X.base fd ps n ks gD)
    (hr : Room k X.A) (hg : X.A.guards = some []) (tk : Takes X W) (I : Inv X pins σ H s) (rv : Vals vs us) (rz : Vals zs ws) (r : Rel X.K μ M H) (q : DVs X.K μ M.length H ds vs) (qz : DVs X.K μ M.length H es zs) (l1 : ds.length = n) (l2 : es.length = ks.length)
    (a : Ans X.K (DV X.K) (fun c d H' => W c d σ H') μ M.length H (m (gD ds es) M) Q) : wpAny (model X.prog X.w) X.A (call (.ref f) us (ks.zip ws)) (EP X pins σ Q) X.xe s := by
  have hb := hab.bnd X.A X.stack s H (fun c d H' => W c d σ H') us ws vs zs μ M ds es I.env0 (by rw [← rv.length, q.length, l1]) (by rw [← rz.length, qz.length, l2]) rv rz r q qz
  refine wpAny_call (codeAny_mono (F.run X.A X.stack s H _ Q _ _ hr hg I.env0 hb fun v H2 ⟨r2, l, q2⟩ => ⟨μ, M, _, r2, q2, Ans.rebase l a⟩) fun r s' hq => ?_)
  cases r with
  | error e => exact tk e s' (XE.of_call I (fun _ _ _ z => z) hq)
  | ok fl =>
    cases fl with
    | ret u => exact I.after hq
    | next => exact False.elim hq
    | brk => exact False.elim hq
    | cont => exact False.elim hq
def gCall (n : Nat) (gD : List D → List D → List D) (m : FL) : FL := fun ds M => if ds.length = n then m (gD ds []) M else .no
/-- f(..) by place -/
theorem me_call {x : Str} {p pos : Pos} {e : Expr} {es : List Expr} {g : FA} {n : Nat} {gD : List D → List D → List D} (F : FnM X.prog X.w X.K X.mg X.base k f fd ps m) (hab : AB X.prog X.w X.K X.mg X.base fd ps n [] gD) (hr : Room k X.A) (hgd : X.A.guards = some []) (tk : Takes X W) (hg : Gl X x) (hm : X.mg x = some (.ref f))
    (hk : PySem.W.keepIn X.K (.ref f) = true) (ha : MA X W (e :: es) g) (hdb : (x == ("__debug__" : Str)) = false := by decide)
    (he : starEach (e :: es) X.env = (false, eval e X.env) :: starEach es X.env := by rfl) (hpl : (backTo pos (starEach es X.env)).any (·.1) = false := by rfl) : ME X W (.Call (.Name x p) (e :: es) [] pos) (eL (gCall n gD m) g) := by
  refine ⟨fun pins s σ H Q I h => ?_⟩
  refine wpAny_Call_Name_kw (ld_glob I hg hm ?_ hdb)
  refine PySem.W.callWith_K (h₀ := X.base) I.ok.mod.kin hk (thn (ha.run pos pins s σ H _ I (tM.seq (rel := DVs X.K) h)) fun us s1 ⟨vs, H1, I1, r, q⟩ => ⟨I1.kIn, ?_⟩) he hpl
  obtain ⟨μ, M, ρ, ds, r1, e1, q1, a⟩ := q
  unfold gCall at a
  split at a
  · rename_i hl
    exact run_m (ws := []) (zs := []) (es := []) F hab hr hgd tk I1 r .nil r1 q1 DVs.nil hl rfl a
  · exact a.elim
/-- f() -/
theorem me_call0 {x : Str} {p pos : Pos} {gD : List D → List D → List D} (F : FnM X.prog X.w X.K X.mg X.base k f fd ps m) (hab : AB X.prog X.w X.K X.mg X.base fd ps 0 [] gD) (hr : Room k X.A) (hgd : X.A.guards = some []) (tk : Takes X W) (hg : Gl X x) (hm : X.mg x = some (.ref f))
    (hk : PySem.W.keepIn X.K (.ref f) = true) (hdb : (x == ("__debug__" : Str)) = false := by decide) : ME X W (.Call (.Name x p) [] [] pos) (eL (gCall 0 gD m) aN) := by
  refine ⟨fun pins s σ H Q I ⟨μ, M, ρ, r1, e1, a⟩ => ?_⟩
  refine wpAny_Call_Name_kw (ld_glob I hg hm ?_ hdb)
  exact PySem.W.callWith_K0 I.kIn hk (run_m (us := []) (ws := []) (zs := []) (es := []) F hab hr hgd tk I .nil .nil r1 DVs.nil DVs.nil rfl rfl a)
/-- keywords' values -/
def MK (X : Cx) (W : WX) (kws : List Keyword) (g : FA) : Prop := PK X kws (tM X.K (DVs X.K) W g)
theorem PK.weak {kws : List Keyword} {t t' : TA} (h : PK X kws t) (w : ∀ σ H Q, t' σ H Q → t σ H Q) : PK X kws t' := ⟨fun p pins s σ H Q I hw => h.run p pins s σ H Q I (w σ H Q hw)⟩
theorem mk_nil : MK X W [] aN := PK.weak pk_nil fun σ H Q ⟨μ, M, ρ, r, e, q⟩ => q μ H [] (Lift.refl ..) r DVs.nil
theorem mk_cons {e : Expr} {f : FE} {g : FA} {kws : List Keyword} {nm : Option Str} {kpos : Pos} (ha : ME X W e f) (hr : MK X W kws g) : MK X W (⟨nm, e, kpos⟩ :: kws) (aC f g) := by
  refine PK.weak (pk_cons ha hr) fun σ H Q h => ?_
  refine tM.mono (fun v H1 ⟨μ, M, ρ, d, r, e, q, a1⟩ => ?_) (tM.seq (rel := DV X.K) h)
  have a2 := Ans.bind (rel := DVs X.K) a1
  refine ⟨μ, M, ρ, r, e, a2.mono (fun u H2 ⟨μ1, M1, d1, l, r1, q1, a3⟩ => ?_) fun _ _ _ z => z⟩
  exact a3 μ1 H2 _ (Lift.refl ..) r1 (DVs.cons (q.lift l) q1)
def eK (n m' : Nat) (gD : List D → List D → List D) (m : FL) (a b : FA) : FE := fun ρ M => (a ρ M).bind fun ds M1 => (b ρ M1).bind fun es M2 => if ds.length = n ∧ es.length = m' then m (gD ds es) M2 else .no
/-- f(.., k = v, ..) -/
theorem me_callK {x : Str} {p pos : Pos} {e : Expr} {es : List Expr} {kws : List Keyword} {g g' : FA} {n : Nat} {ks : List Str} {gD : List D → List D → List D} (F : FnM X.prog X.w X.K X.mg X.base k f fd ps m) (hab : AB X.prog X.w X.K X.mg X.base fd ps n ks gD) (hr : Room k X.A) (hgd : X.A.guards = some []) (tk : Takes X W) (hg : Gl X x) (hm : X.mg x = some (.ref f))
    (hk : PySem.W.keepIn X.K (.ref f) = true) (ha : MA X W (e :: es) g) (hkw : MK X W kws g') (hall : (backToKw pos (keywordEach kws X.env)).all (·.1.isSome) = true := by rfl) (hks : (backToKw pos (keywordEach kws X.env)).filterMap (·.1) = ks := by rfl)
    (hdb : (x == ("__debug__" : Str)) = false := by decide) (he : starEach (e :: es) X.env = (false, eval e X.env) :: starEach es X.env := by rfl) (hpl : ((backTo pos (starEach (e :: es) X.env)).any (·.1) || (backToKw pos (keywordEach kws X.env)).any (·.1.isNone)) = false := by rfl) :
    ME X W (.Call (.Name x p) (e :: es) kws pos) (eK n ks.length gD m g g') := by
  refine ⟨fun pins s σ H Q I h => ?_⟩
  refine wpAny_Call_Name_kw (ld_glob I hg hm ?_ hdb)
  refine PySem.W.callWith_KW (h₀ := X.base) I.ok.mod.kin hk hall (thn (ha.run pos pins s σ H _ I (tM.seq (rel := DVs X.K) h)) fun us s1 ⟨vs, H1, I1, r, q⟩ => ?_) hpl he
  obtain ⟨μ, M, ρ, ds, r1, e1, q1, a⟩ := q
  have a2 := Ans.bind (rel := DVs X.K) a
  refine thn (hkw.run pos pins s1 σ H1 _ I1 ⟨μ, M, ρ, r1, e1, a2⟩) fun ws s2 ⟨zs, H2, I2, rz, q2⟩ => ⟨I2.kIn, ?_⟩
  obtain ⟨μ2, M2, es2, l, r2, q2, a3⟩ := q2
  rw [hks]
  split at a3
  · rename_i hl
    exact run_m F hab hr hgd tk I2 r rz r2 (q1.lift l) q2 hl.1 hl.2 a3
  · exact a3.elim
/-- f(k = v, ..) -/
theorem me_callK0 {x : Str} {p pos : Pos} {kws : List Keyword} {g' : FA} {ks : List Str} {gD : List D → List D → List D} (F : FnM X.prog X.w X.K X.mg X.base k f fd ps m) (hab : AB X.prog X.w X.K X.mg X.base fd ps 0 ks gD) (hr : Room k X.A) (hgd : X.A.guards = some []) (tk : Takes X W) (hg : Gl X x) (hm : X.mg x = some (.ref f))
    (hk : PySem.W.keepIn X.K (.ref f) = true) (hkw : MK X W kws g') (hall : (backToKw pos (keywordEach kws X.env)).all (·.1.isSome) = true := by rfl) (hks : (backToKw pos (keywordEach kws X.env)).filterMap (·.1) = ks := by rfl)
    (hdb : (x == ("__debug__" : Str)) = false := by decide) (hpl : ((backTo pos (starEach [] X.env)).any (·.1) || (backToKw pos (keywordEach kws X.env)).any (·.1.isNone)) = false := by rfl) :
    ME X W (.Call (.Name x p) [] kws pos) (eK 0 ks.length gD m aN g') := by
  refine ⟨fun pins s σ H Q I h => ?_⟩
  refine wpAny_Call_Name_kw (ld_glob I hg hm ?_ hdb)
  refine PySem.W.callWith_KW0 (h₀ := X.base) I.ok.mod.kin hk hall ?_ hpl
  obtain ⟨μ, M, ρ, r1, e1, a⟩ := h
  have a2 := Ans.bind (r := g' ρ M) (rel := DVs X.K) (g := fun es M2 => if ([] : List D).length = 0 ∧ es.length = ks.length then m (gD [] es) M2 else .no) a
  refine thn (hkw.run pos pins s σ H _ I ⟨μ, M, ρ, r1, e1, a2⟩) fun ws s2 ⟨zs, H2, I2, rz, q2⟩ => ⟨I2.kIn, ?_⟩
  obtain ⟨μ2, M2, es2, l, r2, q2, a3⟩ := q2
  rw [hks]
  split at a3
  · rename_i hl
    exact run_m (us := []) F hab hr hgd tk I2 .nil rz r2 (DVs.nil) q2 hl.1 hl.2 a3
  · exact a3.elim
end
end Br
set_option Elab.async false
set_option linter.all false
set_option maxRecDepth 100000
set_option maxHeartbeats 4000000
namespace Br
open PySem PySem.Spec PyProof.Rows L2
/-! ### numbers -/
def gAdd : F2 := fun a b M => match a, b with
  | .int i, .int j => .ok (.int (i + j)) M
  | .str x, .str y => if x.length + y.length ≤ sizeLine then .ok (.str (x ++ y)) M else .no
  | .tup xs, .tup ys => if xs.length + ys.length ≤ sizeLine then .ok (.tup (xs ++ ys)) M else .no
  | _, _ => .no
def gSub : F2 := fun a b M => match a, b with
  | .int i, .int j => .ok (.int (i - j)) M
  | _, _ => .no
def mulOk (i j : Int) : Bool := decide ((-(2 ^ 64) < i ∧ i < 2 ^ 64) ∨ (-(2 ^ 64) < j ∧ j < 2 ^ 64) ∨ (i.natAbs < 2 ^ 400 ∧ j.natAbs < 2 ^ 400))
def gMul : F2 := fun a b M => match a, b with
  | .int i, .int j => if mulOk i j = true then .ok (.int (i * j)) M else .no
  | .tup xs, .int k => if xs ≠ [] ∧ 2 ≤ k ∧ k ≤ 1000 ∧ xs.length ≤ 1000 then .ok (.tup (List.replicate k.toNat xs).flatten) M else if k = 1 then .ok (.tup xs) M else .no
  | _, _ => .no
def gFdiv : F2 := fun a b M => match a, b with
  | .int i, .int j => if 0 < j ∧ j < 2 ^ 64 then .ok (.int (i / j)) M else .no
  | _, _ => .no
def gMod : F2 := fun a b M => match a, b with
  | .int i, .int j => if 0 < j then .ok (.int (i % j)) M else .no
  | _, _ => .no
def gPow : F2 := fun a b M => match a, b with
  | .int i, .int j => if 0 ≤ j ∧ j ≤ 1000 ∧ i.natAbs < 2 ^ 200 then .ok (.int (i ^ j.toNat)) M else .no
  | _, _ => .no
def gNeg : F1 := fun a M => match a with
  | .int i => .ok (.int (-i)) M
  | _ => .no
/-- a pure answer -/
theorem ans_pure {K : PySem.W.Frag} {W : W0} {μ : Nat → Addr} {M : Mem} {H : Hp} {d : D} {v : V} {Q : VK} (r : Rel K μ M H) (q : DV K μ M.length H d v) (a : Ans K (DV K) W μ M.length H (.ok d M) Q) : Q v H := a μ H v (Lift.refl ..) r q
theorem dv_int {K : PySem.W.Frag} {μ : Nat → Addr} {N : Nat} {H : Hp} {i : Int} : DV K μ N H (.int i) (.int i) := by unfold DV; rfl
theorem dv_bl {K : PySem.W.Frag} {μ : Nat → Addr} {N : Nat} {H : Hp} {i : Bool} : DV K μ N H (.bl i) (.bl i) := by unfold DV; rfl
theorem dv_str {K : PySem.W.Frag} {μ : Nat → Addr} {N : Nat} {H : Hp} {i : Str} : DV K μ N H (.str i) (.str i) := by unfold DV; rfl
theorem dv_non {K : PySem.W.Frag} {μ : Nat → Addr} {N : Nat} {H : Hp} : DV K μ N H .non .non := by unfold DV; rfl
theorem int_dv {K : PySem.W.Frag} {μ : Nat → Addr} {N : Nat} {H : Hp} {i : Int} {v : V} (h : DV K μ N H (.int i) v) : v = .int i := by unfold DV at h; exact h
theorem bl_dv {K : PySem.W.Frag} {μ : Nat → Addr} {N : Nat} {H : Hp} {i : Bool} {v : V} (h : DV K μ N H (.bl i) v) : v = .bl i := by unfold DV at h; exact h
theorem str_dv {K : PySem.W.Frag} {μ : Nat → Addr} {N : Nat} {H : Hp} {i : Str} {v : V} (h : DV K μ N H (.str i) v) : v = .str i := by unfold DV at h; exact h
theorem non_dv {K : PySem.W.Frag} {μ : Nat → Addr} {N : Nat} {H : Hp} {v : V} (h : DV K μ N H .non v) : v = .non := by unfold DV at h; exact h
theorem tup_dv {K : PySem.W.Frag} {μ : Nat → Addr} {N : Nat} {H : Hp} {ds : List D} {v : V} (h : DV K μ N H (.tup ds) v) : ∃ a xs, v = .ref a ∧ SqT K H a xs ∧ DVs K μ N H ds xs := by unfold DV at h; exact h
theorem lst_dv {K : PySem.W.Frag} {μ : Nat → Addr} {N : Nat} {H : Hp} {ds : List D} {v : V} (h : DV K μ N H (.lst ds) v) : ∃ a xs, v = .ref a ∧ SqF K H a xs ∧ DVs K μ N H ds xs := by unfold DV at h; exact h
theorem ref_dv {K : PySem.W.Frag} {μ : Nat → Addr} {N : Nat} {H : Hp} {n : Nat} {v : V} (h : DV K μ N H (.ref n) v) : n < N ∧ v = .ref (μ n) := by unfold DV at h; exact h
theorem dv_tup {K : PySem.W.Frag} {μ : Nat → Addr} {N : Nat} {H : Hp} {ds : List D} {a : Addr} {xs : List V} (s : SqT K H a xs) (q : DVs K μ N H ds xs) : DV K μ N H (.tup ds) (.ref a) := by unfold DV; exact ⟨a, xs, rfl, s, q⟩
theorem dv_lst {K : PySem.W.Frag} {μ : Nat → Addr} {N : Nat} {H : Hp} {ds : List D} {a : Addr} {xs : List V} (s : SqF K H a xs) (q : DVs K μ N H ds xs) : DV K μ N H (.lst ds) (.ref a) := by unfold DV; exact ⟨a, xs, rfl, s, q⟩
section
variable {X : Cx}
theorem DVs.ne_nil {K : PySem.W.Frag} {μ : Nat → Addr} {N : Nat} {H : Hp} {ds : List D} {vs : List V} (h : DVs K μ N H ds vs) : vs = [] ↔ ds = [] := by
  have e := h.length
  cases ds <;> cases vs <;> simp_all
theorem om_add : OpM X (binaryOp .Add) gAdd := by
  intro W pins s σ H x y v u Q I rx ry ⟨μ, M, a, b, r, qa, qb, an⟩
  unfold gAdd at an
  split at an
  · rw [int_dv qa] at rx; rw [int_dv qb] at ry
    exact op_add pins s σ H _ _ v u Q I rx ry ⟨_, _, rfl, rfl, ans_pure r dv_int an⟩
  · split at an
    · rename_i hl
      rw [str_dv qa] at rx; rw [str_dv qb] at ry
      exact op_add_str pins s σ H _ _ v u Q I rx ry ⟨_, _, rfl, rfl, hl, ans_pure r dv_str an⟩
    · exact an.elim
  · split at an
    · rename_i xs ys hl
      obtain ⟨a1, x1, e1, s1, d1⟩ := tup_dv qa
      obtain ⟨a2, x2, e2, s2, d2⟩ := tup_dv qb
      subst e1; subst e2
      refine op_catA pins s σ H _ _ v u Q I rx ry ⟨a1, a2, x1, x2, rfl, rfl, s1, s2, by rw [d1.length, d2.length]; exact hl, fun z => ?_, fun _ z => ?_, fun _ _ p hp => ?_⟩
      · have := d1.ne_nil.mp z; subst this
        exact ans_pure r qb an
      · have := d2.ne_nil.mp z; subst this
        rw [List.append_nil] at an
        exact ans_pure r qa an
      · exact ans_tup r (d1.append d2) an p hp
    · exact an.elim
  · exact an.elim
theorem om_sub : OpM X (binaryOp .Sub) gSub := by
  intro W pins s σ H x y v u Q I rx ry ⟨μ, M, a, b, r, qa, qb, an⟩
  unfold gSub at an
  split at an
  · rw [int_dv qa] at rx; rw [int_dv qb] at ry
    exact op_sub pins s σ H _ _ v u Q I rx ry ⟨_, _, rfl, rfl, ans_pure r dv_int an⟩
  · exact an.elim
theorem op_mulX : OpR X (binaryOp .Mult) (rI (fun i j => mulOk i j = true) fun i j => .int (i * j)) := by
  intro pins s σ H x y v u Q I rx ry ⟨i, j, e1, e2, h, q⟩
  have h : (-(2 ^ 64) < i ∧ i < 2 ^ 64) ∨ (-(2 ^ 64) < j ∧ j < 2 ^ 64) ∨ (i.natAbs < 2 ^ 400 ∧ j.natAbs < 2 ^ 400) := of_decide_eq_true h
  rcases h with h | h | h
  · exact op_mul pins s σ H x y v u Q I rx ry ⟨i, j, e1, e2, .inl h, q⟩
  · exact op_mul pins s σ H x y v u Q I rx ry ⟨i, j, e1, e2, .inr h, q⟩
  · exact op_mulW pins s σ H x y v u Q I rx ry ⟨i, j, e1, e2, wide_mul h.1 h.2 (by decide) (by decide) (by decide), q⟩
theorem mul_one_tuple {prog : Program} {w : World} {A : Around} {E : Value → Shared → Prop} {s : Shared} : True := trivial
theorem intBits_le (i : Int) : Builtin.Int.intBits i ≤ i.natAbs.log2 + 1 := by
  unfold Builtin.Int.intBits
  split <;> omega
theorem op_powX : OpR X (binaryOp .Pow) (rI (fun i j => 0 ≤ j ∧ j ≤ 1000 ∧ i.natAbs < 2 ^ 200) fun i j => .int (i ^ j.toNat)) := by
  intro pins s σ H x y v u Q I rx ry ⟨i, j, e1, e2, ⟨h1, h2, h3⟩, q⟩
  subst e1; subst e2
  obtain ⟨t, rfl⟩ := rx
  obtain ⟨t', rfl⟩ := ry
  refine pow_int h1 ?_ ⟨.int _, H, I.tok _, ⟨_, rfl⟩, q⟩
  have l1 := intBits_le i
  have l2 : i.natAbs.log2 < 200 := PySem.Flt.log2_lt_of (by decide) h3
  have l3 : Builtin.Int.intBits i ≤ 200 := by omega
  have l4 : ((Builtin.Int.intBits i : Nat) : Int) ≤ 200 := by omega
  have : ((Builtin.Int.intBits i : Nat) : Int) * j ≤ 200 * 1000 := Int.mul_le_mul l4 h2 h1 (by decide)
  omega
theorem om_fdiv : OpM X (binaryOp .FloorDiv) gFdiv := by
  intro W pins s σ H x y v u Q I rx ry ⟨μ, M, a, b, r, qa, qb, an⟩
  unfold gFdiv at an
  split at an
  · split at an
    · rename_i i j h
      rw [int_dv qa] at rx; rw [int_dv qb] at ry
      refine op_fdivW pins s σ H _ _ v u Q I rx ry ⟨_, _, rfl, rfl, wide_div (b := 64) h.1 ?_ (by decide) (by decide), ans_pure r dv_int an⟩
      have := h.2
      omega
    · exact an.elim
  · exact an.elim
theorem om_mod : OpM X (binaryOp .Mod) gMod := by
  intro W pins s σ H x y v u Q I rx ry ⟨μ, M, a, b, r, qa, qb, an⟩
  unfold gMod at an
  split at an
  · split at an
    · rename_i h
      rw [int_dv qa] at rx; rw [int_dv qb] at ry
      exact op_mod pins s σ H _ _ v u Q I rx ry ⟨_, _, rfl, rfl, h, ans_pure r dv_int an⟩
    · exact an.elim
  · exact an.elim
theorem om_pow : OpM X (binaryOp .Pow) gPow := by
  intro W pins s σ H x y v u Q I rx ry ⟨μ, M, a, b, r, qa, qb, an⟩
  unfold gPow at an
  split at an
  · split at an
    · rename_i h
      rw [int_dv qa] at rx; rw [int_dv qb] at ry
      exact op_powX pins s σ H _ _ v u Q I rx ry ⟨_, _, rfl, rfl, h, ans_pure r dv_int an⟩
    · exact an.elim
  · exact an.elim
theorem um_neg : UnM X (unaryOp .USub) gNeg := by
  intro W pins s σ H x v Q I rx ⟨μ, M, a, r, qa, an⟩
  unfold gNeg at an
  split at an
  · rw [int_dv qa] at rx
    exact un_neg pins s σ H _ v Q I rx ⟨_, rfl, ans_pure r dv_int an⟩
  · exact an.elim
/-! ### comparisons of numbers -/
def gI (p : Int → Int → Bool) : F2 := fun a b M => match a, b with
  | .int i, .int j => .ok (.bl (p i j)) M
  | _, _ => .no
theorem om_int {f : Value → Value → Sem Value} {p : Int → Int → Bool} (h : OpR X f (rI0 fun i j => .bl (p i j))) : OpM X f (gI p) := by
  intro W pins s σ H x y v u Q I rx ry ⟨μ, M, a, b, r, qa, qb, an⟩
  unfold gI at an
  split at an
  · rw [int_dv qa] at rx; rw [int_dv qb] at ry
    exact h pins s σ H _ _ v u Q I rx ry ⟨_, _, rfl, rfl, ans_pure r dv_bl an⟩
  · exact an.elim
def gLt : F2 := gI fun i j => decide (i < j)
def gLe : F2 := gI fun i j => decide (i ≤ j)
def gGt : F2 := gI fun i j => decide (j < i)
def gGe : F2 := gI fun i j => decide (j ≤ i)
theorem om_lt : OpM X (compareOp .Lt) gLt := om_int op_lt
theorem om_le : OpM X (compareOp .LtE) gLe := om_int op_le
theorem om_gt : OpM X (compareOp .Gt) gGt := om_int op_gt
theorem om_ge : OpM X (compareOp .GtE) gGe := om_int op_ge
/-! ### data -/
end
mutual
def toPyR (rs : Nat → Option PyData) : D → Option PyData
  | .non => some .none
  | .bl b => some (.bool b)
  | .int i => some (.int i)
  | .str x => some (.str x)
  | .tup xs => (toPysR rs xs).map .tuple
  | .lst xs => (toPysR rs xs).map .list
  | .ref n => rs n
  | .gl _ => none
  | .ty _ => none
def toPysR (rs : Nat → Option PyData) : List D → Option (List PyData)
  | [] => some []
  | d :: ds => (toPyR rs d).bind fun p => (toPysR rs ds).map (p :: ·)
end
def rsN (M : Mem) : Nat → Nat → Option PyData
  | 0 => fun _ => none
  | k + 1 => fun n => match M[n]? with
    | some (.lst ds) => (toPysR (rsN M k) ds).map .list
    | _ => none
def toPy (M : Mem) : D → Option PyData := toPyR (rsN M 3)
section
variable {K : PySem.W.Frag} {μ : Nat → Addr} {M : Mem} {H : Hp}
mutual
theorem toPyR_ok {rs : Nat → Option PyData} (hr : ∀ n p, n < M.length → rs n = some p → Dp K H (.ref (μ n)) p) : ∀ (d : D) (v : V) (p : PyData), DV K μ M.length H d v → toPyR rs d = some p → Dp K H v p
  | .non, v, p, q, h => by rw [non_dv q]; unfold toPyR at h; cases h; exact .non
  | .bl b, v, p, q, h => by rw [bl_dv q]; unfold toPyR at h; cases h; exact .bl b
  | .int b, v, p, q, h => by rw [int_dv q]; unfold toPyR at h; cases h; exact .int b
  | .str b, v, p, q, h => by rw [str_dv q]; unfold toPyR at h; cases h; exact .str b
  | .tup xs, v, p, q, h => by
    obtain ⟨a, vs, e, s, ds⟩ := tup_dv q
    subst e
    unfold toPyR at h
    cases e : toPysR rs xs with
    | none => rw [e] at h; cases h
    | some ps => rw [e] at h; cases h; exact .tup s (toPysR_ok hr xs vs ps ds e)
  | .lst xs, v, p, q, h => by
    obtain ⟨a, vs, e, s, ds⟩ := lst_dv q
    subst e
    unfold toPyR at h
    cases e : toPysR rs xs with
    | none => rw [e] at h; cases h
    | some ps => rw [e] at h; cases h; exact .lst s.seq (toPysR_ok hr xs vs ps ds e)
  | .ref n, v, p, q, h => by
    obtain ⟨hn, e⟩ := ref_dv q
    subst e
    unfold toPyR at h
    exact hr n p hn h
  | .gl x, v, p, q, h => by unfold toPyR at h; cases h
  | .ty x, v, p, q, h => by unfold toPyR at h; cases h
theorem toPysR_ok {rs : Nat → Option PyData} (hr : ∀ n p, n < M.length → rs n = some p → Dp K H (.ref (μ n)) p) : ∀ (ds : List D) (vs : List V) (ps : List PyData), DVs K μ M.length H ds vs → toPysR rs ds = some ps → DpAll K H vs ps
  | [], vs, ps, q, h => by rw [q.inv_nil]; unfold toPysR at h; cases h; exact .nil
  | d :: ds, vs, ps, q, h => by
    obtain ⟨v, r, e, q1, q2⟩ := q.inv_cons
    subst e
    unfold toPysR at h
    cases e1 : toPyR rs d with
    | none => rw [e1] at h; cases h
    | some p =>
      rw [e1] at h
      cases e2 : toPysR rs ds with
      | none => rw [e2] at h; cases h
      | some ps' => rw [e2] at h; cases h; exact .cons (toPyR_ok hr d v p q1 e1) (toPysR_ok hr ds r ps' q2 e2)
end
theorem rsN_ok (r : Rel K μ M H) : ∀ (k n : Nat) (p : PyData), n < M.length → rsN M k n = some p → Dp K H (.ref (μ n)) p
  | 0, n, p, hn, h => by unfold rsN at h; cases h
  | k + 1, n, p, hn, h => by
    unfold rsN at h
    split at h
    · rename_i ds hd
      obtain ⟨xs, h1, h2⟩ := r.obj n _ hd
      cases e : toPysR (rsN M k) ds with
      | none => rw [e] at h; cases h
      | some ps => rw [e] at h; cases h; exact .lst (SqL.of h1) (toPysR_ok (fun n p => rsN_ok r k n p) ds xs ps h2 e)
    · cases h
theorem toPy_ok (r : Rel K μ M H) {d : D} {v : V} {p : PyData} (q : DV K μ M.length H d v) (h : toPy M d = some p) : Dp K H v p := toPyR_ok (rsN_ok r 3) d v p q h
end
/-- == of data -/
def eqD (M : Mem) (a b : D) : Option Bool := match a, b with
  | .int i, .int j => some (decide (i = j))
  | .str x, .str y => some (decide (x = y))
  | .non, .non => some true
  | .bl x, .bl y => some (x == y)
  | _, _ => (match toPy M a, toPy M b with
    | some p, some q => if SeqAt.shaped p && SeqAt.shaped q then some (PyData.eqv p q) else none
    | _, _ => none)
def gEq : F2 := fun a b M => match eqD M a b with
  | some k => .ok (.bl k) M
  | none => .no
def gNe : F2 := fun a b M => match eqD M a b with
  | some k => .ok (.bl (!k)) M
  | none => .no
section
variable {X : Cx}
theorem eqD_ok {K : PySem.W.Frag} {μ : Nat → Addr} {M : Mem} {H : Hp} {a b : D} {x y : V} {k : Bool} (r : Rel K μ M H) (qa : DV K μ M.length H a x) (qb : DV K μ M.length H b y) (h : eqD M a b = some k) :
    (scal x y = true ∧ k = decide (x = y)) ∨ ∃ d e, Dp K H x d ∧ Dp K H y e ∧ SeqAt.shaped d = true ∧ SeqAt.shaped e = true ∧ k = PyData.eqv d e := by
  unfold eqD at h
  split at h
  · rw [int_dv qa, int_dv qb]; cases h
    refine .inl ⟨rfl, ?_⟩
    rw [Bool.eq_iff_iff]; simp
  · rw [str_dv qa, str_dv qb]; cases h
    refine .inl ⟨rfl, ?_⟩
    rw [Bool.eq_iff_iff]; simp
  · rw [non_dv qa, non_dv qb]; cases h; exact .inl ⟨rfl, rfl⟩
  · rw [bl_dv qa, bl_dv qb]; cases h
    refine .inl ⟨rfl, ?_⟩
    rw [Bool.eq_iff_iff]; simp
  · split at h
    · rename_i p q hp hq
      split at h
      · rename_i hs
        cases h
        have hs := Bool.and_eq_true_iff.mp hs
        exact .inr ⟨p, q, toPy_ok r qa hp, toPy_ok r qb hq, hs.1, hs.2, rfl⟩
      · cases h
    · cases h
theorem om_eq (hu : X.A.units + 64 < cLine) : OpM X (compareOp .Eq) gEq := by
  intro W pins s σ H x y v u Q I rx ry ⟨μ, M, a, b, r, qa, qb, an⟩
  unfold gEq at an
  split at an
  · rename_i k hk
    rcases eqD_ok r qa qb hk with ⟨h, e⟩ | ⟨d, e, h1, h2, h3, h4, h5⟩
    · subst e
      exact op_eq pins s σ H x y v u Q I rx ry ⟨h, ans_pure r dv_bl an⟩
    · subst h5
      exact op_eqD hu pins s σ H x y v u Q I rx ry ⟨d, e, h1, h2, h3, h4, ans_pure r dv_bl an⟩
  · exact an.elim
theorem om_ne (hu : X.A.units + 64 < cLine) : OpM X (compareOp .NotEq) gNe := by
  intro W pins s σ H x y v u Q I rx ry ⟨μ, M, a, b, r, qa, qb, an⟩
  unfold gNe at an
  split at an
  · rename_i k hk
    rcases eqD_ok r qa qb hk with ⟨h, e⟩ | ⟨d, e, h1, h2, h3, h4, h5⟩
    · subst e
      exact op_ne pins s σ H x y v u Q I rx ry ⟨h, ans_pure r dv_bl an⟩
    · subst h5
      exact op_neD hu pins s σ H x y v u Q I rx ry ⟨d, e, h1, h2, h3, h4, ans_pure r dv_bl an⟩
  · exact an.elim
/-- repr of data -/
def gRepr : FL := fun ds M => match ds with
  | [d] => (match toPy M d with
    | some p => if p.showable && !p.hasDict && decide (p.depth ≤ 64) && decide (p.shown.length ≤ sizeLine) then .ok (.str p.shown) M else .no
    | none => .no)
  | _ => .no
end
/-! ### sequences -/
def seqL (M : Mem) : D → Option (List D)
  | .lst xs => some xs
  | .ref n => (match M[n]? with
    | some (.lst xs) => some xs
    | _ => none)
  | _ => none
theorem seqL_ok {K : PySem.W.Frag} {μ : Nat → Addr} {M : Mem} {H : Hp} {d : D} {v : V} {ds : List D} (r : Rel K μ M H) (q : DV K μ M.length H d v) (h : seqL M d = some ds) : ∃ a xs, v = .ref a ∧ SqL K H a xs ∧ DVs K μ M.length H ds xs := by
  cases d with
  | lst ds' =>
    cases h
    obtain ⟨a, xs, e, s, t⟩ := lst_dv q
    exact ⟨a, xs, e, s.seq, t⟩
  | ref n =>
    obtain ⟨hn, e⟩ := ref_dv q
    unfold seqL at h
    dsimp only at h
    split at h
    · rename_i hx
      cases h
      obtain ⟨xs, h1, h2⟩ := r.obj n _ hx
      exact ⟨_, xs, e, SqL.of h1, h2⟩
    · cases h
  | _ => cases h
/-- a list's items or a tuple's -/
def seqA (M : Mem) : D → Option (List D)
  | .tup xs => some xs
  | d => seqL M d
theorem seqA_ok {K : PySem.W.Frag} {μ : Nat → Addr} {M : Mem} {H : Hp} {d : D} {v : V} {ds : List D} (r : Rel K μ M H) (q : DV K μ M.length H d v) (h : seqA M d = some ds) : ∃ a xs, v = .ref a ∧ (SqL K H a xs ∨ SqT K H a xs) ∧ DVs K μ M.length H ds xs := by
  cases d with
  | tup ds' =>
    cases h
    obtain ⟨a, xs, e, s, t⟩ := tup_dv q
    exact ⟨a, xs, e, .inr s, t⟩
  | lst ds' => obtain ⟨a, xs, e, s, t⟩ := seqL_ok r q h; exact ⟨a, xs, e, .inl s, t⟩
  | ref n => obtain ⟨a, xs, e, s, t⟩ := seqL_ok r q h; exact ⟨a, xs, e, .inl s, t⟩
  | _ => cases h
def gIx : F2 := fun a b M => match b with
  | .int i => (match a with
    | .str z => if z.length ≤ sizeLine then (match atI z.cps.toList i with
      | some c => .ok (.str ⟨#[c]⟩) M
      | none => .no) else .no
    | a => (match seqA M a with
      | some xs => (match atI xs i with
        | some d => .ok d M
        | none => .no)
      | none => .no))
  | _ => .no
theorem atI_dv {K : PySem.W.Frag} {μ : Nat → Addr} {N : Nat} {H : Hp} {ds : List D} {vs : List V} {i : Int} {d : D} (q : DVs K μ N H ds vs) (h : atI ds i = some d) : ∃ v, atI vs i = some v ∧ DV K μ N H d v := by
  unfold atI at h ⊢
  rw [q.length]
  cases e : ixN ds.length i with
  | none => rw [e] at h; cases h
  | some j =>
    rw [e] at h
    exact q.get h
section
variable {X : Cx}
theorem ixm : IxM X gIx := by
  intro W value slice pins s σ H x y v u Q I rx ry ⟨μ, M, a, b, r, qa, qb, an⟩ hs
  unfold gIx at an
  split at an
  · rename_i i
    rw [int_dv qb] at ry
    split at an
    · rename_i z
      rw [str_dv qa] at rx
      split at an
      · rename_i hl
        split at an
        · rename_i c hc
          exact ix_str value slice pins s σ H _ _ v u Q I rx ry ⟨z, i, c, rfl, rfl, hl, hc, ans_pure r dv_str an⟩ hs
        · exact an.elim
      · exact an.elim
    · split at an
      · rename_i xs hx
        split at an
        · rename_i d hd
          obtain ⟨p, vs, e, hsq, qs⟩ := seqA_ok r qa hx
          subst e
          obtain ⟨w', hw, dw⟩ := atI_dv qs hd
          rcases hsq with hsq | hsq
          · exact ix_list value slice pins s σ H _ _ v u Q I rx ry ⟨p, vs, i, w', rfl, rfl, hsq, hw, ans_pure r dw an⟩ hs
          · exact ix_tup value slice pins s σ H _ _ v u Q I rx ry ⟨p, vs, i, w', rfl, rfl, hsq, hw, ans_pure r dw an⟩ hs
        · exact an.elim
      · exact an.elim
  · exact an.elim
/-! ### built-in functions -/
def gLen : FL := fun ds M => match ds with
  | [.str z] => if z.length ≤ sizeLine then .ok (.int z.length) M else .no
  | [d] => (match seqA M d with
    | some xs => .ok (.int xs.length) M
    | none => .no)
  | _ => .no
theorem cm_len : CallM X (.builtin "len") gLen := by
  intro W pins s σ H xs us Q I rv ⟨μ, M, as, r, q, an⟩
  unfold gLen at an
  split at an
  · split at an
    · rename_i hl
      obtain ⟨v, r', e, q1, q2⟩ := q.inv_cons
      rw [e, q2.inv_nil, str_dv q1] at rv
      exact call_len_str pins s σ H _ us Q I rv ⟨_, rfl, hl, ans_pure r dv_int an⟩
    · exact an.elim
  · split at an
    · rename_i ds hd
      obtain ⟨v, r', e, q1, q2⟩ := q.inv_cons
      obtain ⟨p, vs, e2, hsq, qs⟩ := seqA_ok r q1 hd
      rw [e, q2.inv_nil, e2] at rv
      refine call_len_seq pins s σ H _ us Q I rv ⟨p, vs, rfl, hsq, ?_⟩
      rw [qs.length]
      exact ans_pure r dv_int an
    · exact an.elim
  · exact an.elim
def gAbs : FL := fun ds M => match ds with
  | [.int i] => .ok (.int (if i < 0 then -i else i)) M
  | _ => .no
theorem cm_abs : CallM X (.builtin "abs") gAbs := by
  intro W pins s σ H xs us Q I rv ⟨μ, M, as, r, q, an⟩
  unfold gAbs at an
  split at an
  · obtain ⟨v, r', e, q1, q2⟩ := q.inv_cons
    rw [e, q2.inv_nil, int_dv q1] at rv
    exact call_abs pins s σ H _ us Q I rv ⟨_, rfl, ans_pure r dv_int an⟩
  · exact an.elim
def gMax : FL := fun ds M => match ds with
  | [.int i, .int j] => .ok (.int (if j > i then j else i)) M
  | _ => .no
def gMin : FL := fun ds M => match ds with
  | [.int i, .int j] => .ok (.int (if j < i then j else i)) M
  | _ => .no
theorem cm_max (hc : X.calm = true) : CallM X (.builtin "max") gMax := by
  intro W pins s σ H xs us Q I rv ⟨μ, M, as, r, q, an⟩
  unfold gMax at an
  split at an
  · obtain ⟨v, r', e, q1, q2⟩ := q.inv_cons
    obtain ⟨v2, r2, e2, q3, q4⟩ := q2.inv_cons
    rw [e, e2, q4.inv_nil, int_dv q1, int_dv q3] at rv
    exact call_max2 hc pins s σ H _ us Q I rv ⟨_, _, rfl, ans_pure r dv_int an⟩
  · exact an.elim
theorem cm_min (hc : X.calm = true) : CallM X (.builtin "min") gMin := by
  intro W pins s σ H xs us Q I rv ⟨μ, M, as, r, q, an⟩
  unfold gMin at an
  split at an
  · obtain ⟨v, r', e, q1, q2⟩ := q.inv_cons
    obtain ⟨v2, r2, e2, q3, q4⟩ := q2.inv_cons
    rw [e, e2, q4.inv_nil, int_dv q1, int_dv q3] at rv
    exact call_min2 hc pins s σ H _ us Q I rv ⟨_, _, rfl, ans_pure r dv_int an⟩
  · exact an.elim
def gInt : FL := fun ds M => match ds with
  | [.int i] => .ok (.int i) M
  | [.bl k] => .ok (.int (if k then 1 else 0)) M
  | _ => .no
theorem cm_int : CallM X (.type "int") gInt := by
  intro W pins s σ H xs us Q I rv ⟨μ, M, as, r, q, an⟩
  unfold gInt at an
  split at an
  · obtain ⟨v, r', e, q1, q2⟩ := q.inv_cons
    rw [e, q2.inv_nil, int_dv q1] at rv
    exact call_int1 pins s σ H _ us Q I rv (.inl ⟨_, rfl, ans_pure r dv_int an⟩)
  · obtain ⟨v, r', e, q1, q2⟩ := q.inv_cons
    rw [e, q2.inv_nil, bl_dv q1] at rv
    exact call_int1 pins s σ H _ us Q I rv (.inr ⟨_, rfl, ans_pure r dv_int an⟩)
  · exact an.elim
theorem cm_repr (hgd : X.A.guards = some []) (hu : X.A.units + 128 < cLine) : CallM X (.builtin "repr") gRepr := by
  intro W pins s σ H xs us Q I rv ⟨μ, M, as, r, q, an⟩
  unfold gRepr at an
  split at an
  · split at an
    · rename_i d p hp
      split at an
      · rename_i hs
        obtain ⟨v, r', e, q1, q2⟩ := q.inv_cons
        rw [e, q2.inv_nil] at rv
        obtain ⟨u, rfl, ru⟩ := vals1 rv
        have hdp := toPy_ok r q1 hp
        simp only [Bool.and_eq_true, decide_eq_true_eq, Bool.not_eq_true'] at hs
        obtain ⟨⟨⟨h1, h2⟩, h3⟩, h4⟩ := hs
        obtain ⟨as', hr⟩ := Dp.reads I p v u hdp ru
        cases hdp with
        | non => cases ru; exact PySem.P.repr_of_none ⟨.str _, H, I.tok _, ⟨_, rfl⟩, ans_pure r dv_str an⟩
        | bl b =>
          cases ru
          refine PySem.P.repr_of_bool ⟨.str _, H, I.tok _, ⟨_, rfl⟩, ?_⟩
          have := ans_pure r dv_str an
          exact this
        | int i =>
          obtain ⟨t, rfl⟩ := ru
          have hi : i.natAbs.log2 < 1920 := by simpa [PyData.showable] using h1
          exact PySem.P.repr_of_int hi ⟨.str _, H, I.tok _, ⟨_, rfl⟩, ans_pure r dv_str an⟩
        | str x =>
          obtain ⟨t, rfl⟩ := ru
          exact PySem.P.repr_of_str ⟨.str _, H, I.tok _, ⟨_, rfl⟩, ans_pure r dv_str an⟩ h4
        | lst hs2 ha =>
          cases ru
          refine repr_of_reads' hr h1 (fun z => by rw [h2] at z; cases z) hgd (by omega) (fun _ _ z => z) (fun h' u tk k => ?_) h4
          exact ⟨.str _, H, I.kept k, ⟨_, rfl⟩, ans_pure r dv_str an⟩
        | tup hs2 ha =>
          cases ru
          refine repr_of_reads' hr h1 (fun z => by rw [h2] at z; cases z) hgd (by omega) (fun _ _ z => z) (fun h' u tk k => ?_) h4
          exact ⟨.str _, H, I.kept k, ⟨_, rfl⟩, ans_pure r dv_str an⟩
      · exact an.elim
    · exact an.elim
  · exact an.elim
end
end Br
set_option Elab.async false
set_option linter.all false
set_option maxRecDepth 100000
set_option maxHeartbeats 4000000
namespace Br
open PySem PySem.Spec PyProof.Rows L2
/-! ### products -/
section
variable {X : Cx}
theorem om_mul : OpM X (binaryOp .Mult) (fun a b M => match a, b with
    | .int i, .int j => if mulOk i j = true then .ok (.int (i * j)) M else .no
    | .tup xs, .int k => if xs ≠ [] ∧ 2 ≤ k ∧ k ≤ 1000 ∧ xs.length ≤ 1000 then .ok (.tup (List.replicate k.toNat xs).flatten) M else .no
    | _, _ => .no) := by
  intro W pins s σ H x y v u Q I rx ry ⟨μ, M, a, b, r, qa, qb, an⟩
  dsimp only at an
  split at an
  · split at an
    · rename_i h
      rw [int_dv qa] at rx; rw [int_dv qb] at ry
      exact op_mulX pins s σ H _ _ v u Q I rx ry ⟨_, _, rfl, rfl, h, ans_pure r dv_int an⟩
    · exact an.elim
  · split at an
    · rename_i xs k h
      obtain ⟨a1, x1, e1, s1, d1⟩ := tup_dv qa
      subst e1
      rw [int_dv qb] at ry
      refine op_repT pins s σ H _ _ v u Q I rx ry ⟨a1, k, x1, rfl, rfl, s1, fun z => h.1 (d1.ne_nil.mp z), h.2.1, h.2.2.1, by rw [d1.length]; exact h.2.2.2, fun p hp => ?_⟩
      exact ans_tup r (d1.rep _) an p hp
    · exact an.elim
  · exact an.elim
/-! ### list + list -/
/-- of any lists that can be read -/
def rCatL (K : PySem.W.Frag) : R2 := fun x y H Q => ∃ a b xs ys, x = .ref a ∧ y = .ref b ∧ SqF' H a xs ∧ SqF' H b ys ∧ xs.length + ys.length ≤ sizeLine ∧ ∀ p, H p = none → Q (.ref p) (upd H p (.lst (xs ++ ys)))
where SqF' (H : Hp) (a : Addr) (xs : List V) : Prop := Rd H a (.lst xs)
theorem rd_lst {pins : List (Addr × Obj)} {s : Shared} {σ : L2.St} {H : Hp} {a : Addr} {xs : List V} (I : Inv X pins σ H s) (h : Rd H a (.lst xs)) : xs.length ≤ sizeLine ∧ ∃ (its : List Value) (n : Nat), Vals xs its ∧ xs.length = its.length ∧ s.heap.get? a = some { cls := .type "list", data := .seq its.toArray n } := by
  obtain ⟨z, its, n, r, e⟩ := h.ok I.hok
  exact ⟨z, its, n, r, r.length, e⟩
theorem op_catL : OpR X (binaryOp .Add) (rCatL X.K) := by
  intro pins s σ H x y v u Q I rx ry h
  obtain ⟨l, b, xs, zs, rfl, rfl, hH, hB, hz, q⟩ := h
  cases rx
  cases ry
  obtain ⟨z, its, n, r, hl, e⟩ := rd_lst I hH
  obtain ⟨z2, its2, n2, r2, hl2, e2⟩ := rd_lst I hB
  refine PySem.P.add_list e e2 ?_ (by rw [List.size_toArray, List.size_toArray]; omega)
  have ea : its.toArray ++ its2.toArray = (its ++ its2).toArray := by simp
  rw [ea]
  exact ⟨.ref _, _, I.lnew (t' := s.toks) (r.append r2) (by rw [List.length_append]; omega), rfl, q _ I.fresh⟩
end
/-- lists that are no constants of the top -/
def seqM (M : Mem) : D → Option (List D) := seqL M
def gCatV : F2 := fun a b M => match seqL M a, seqL M b with
  | some xs, some ys => if xs.length + ys.length ≤ sizeLine then .ok (.lst (xs ++ ys)) M else .no
  | _, _ => .no
def gCatN : F2 := fun a b M => match seqL M a, seqL M b with
  | some xs, some ys => if xs.length + ys.length ≤ sizeLine then .ok (.ref M.length) (M ++ [.lst (xs ++ ys)]) else .no
  | _, _ => .no
/-- no list stands in the written part (told of each address) -/
def NoKL (K : PySem.W.Frag) : Prop := ∀ (a : Addr) (o : Obj), K.lookup a = some o → o.cls ≠ .type "list"
section
variable {X : Cx} {W : WX} {a b e : Expr} {fa fb f : FE} {pos : Pos}
theorem sq_rd {K : PySem.W.Frag} (hk : NoKL K) {H : Hp} {a : Addr} {xs : List V} (h : SqL K H a xs) : Rd H a (.lst xs) := by
  rcases h with h | ⟨o, its, n, h, c, _⟩
  · exact h
  · exact absurd c (hk a o h)
theorem me_catN (hk : NoKL X.K) (ha : ME X W a fa) (hb : ME X W b fb) : ME X W (.BinOp a .Add b pos) (e2 gCatN fa fb) := by
  refine me_op (fun W pins s σ H x y v u Q I rx ry ⟨μ, M, a, b, r, qa, qb, an⟩ => ?_) ha hb
  unfold gCatN at an
  split at an
  · split at an
    · rename_i xs ys h1 h2 hl
      obtain ⟨p1, x1, e1, s1, d1⟩ := seqL_ok r qa h1
      obtain ⟨p2, x2, e2, s2, d2⟩ := seqL_ok r qb h2
      subst e1; subst e2
      exact op_catL pins s σ H _ _ v u Q I rx ry ⟨p1, p2, x1, x2, rfl, rfl, sq_rd hk s1, sq_rd hk s2, by rw [d1.length, d2.length]; exact hl, fun p hp => ans_new r (d1.append d2) an p hp⟩
    · exact an.elim
  · exact an.elim
/-- a made list, locked -/
theorem OpR.lock {f : Value → Value → Sem Value} {r : R2} (h : OpR X f r) : OpR X f (fun x y H Q => r x y H fun z H1 => ∃ a xs, z = .ref a ∧ H1 a = some (.lst xs) ∧ ∀ o, Q z (upd H1 a (.frz o (.lst xs)))) := by
  intro pins s σ H x y v u Q I rx ry hr
  refine thn (h pins s σ H x y v u _ I rx ry hr) fun w s1 ⟨z, H1, I1, rv, a, xs, e1, e2, q⟩ => ?_
  obtain ⟨o, J⟩ := Inv.lock I1 e2
  exact ⟨z, _, J, rv, q o⟩
theorem me_catV (hk : NoKL X.K) (ha : ME X W a fa) (hb : ME X W b fb) : ME X W (.BinOp a .Add b pos) (e2 gCatV fa fb) := by
  refine me_op (fun W pins s σ H x y v u Q I rx ry ⟨μ, M, a, b, r, qa, qb, an⟩ => ?_) ha hb
  unfold gCatV at an
  split at an
  · split at an
    · rename_i xs ys h1 h2 hl
      obtain ⟨p1, x1, e1, s1, d1⟩ := seqL_ok r qa h1
      obtain ⟨p2, x2, e2, s2, d2⟩ := seqL_ok r qb h2
      subst e1; subst e2
      exact OpR.lock op_catL pins s σ H _ _ v u Q I rx ry ⟨p1, p2, x1, x2, rfl, rfl, sq_rd hk s1, sq_rd hk s2, by rw [d1.length, d2.length]; exact hl, fun p hp => ⟨p, _, rfl, upd_same, fun o => ans_lst r (d1.append d2) an p hp o⟩⟩
    · exact an.elim
  · exact an.elim
/-! ### methods of lists -/
end
/-- the memory with a list changed -/
def putL (M : Mem) (n : Nat) (f : List D → List D) : Option Mem := match M[n]? with
  | some (.lst xs) => some (M.set n (.lst (f xs)))
  | _ => none
def gAppend : D → FL := fun a ds M => match a, ds with
  | .ref n, [d] => (match M[n]? with
    | some (.lst xs) => if xs.length < sizeLine then .ok .non (M.set n (.lst (xs ++ [d]))) else .no
    | _ => .no)
  | _, _ => .no
def gPop : D → FL := fun a ds M => match a, ds with
  | .ref n, [] => (match M[n]? with
    | some (.lst xs) => (match xs[xs.length - 1]? with
      | some d => .ok d (M.set n (.lst xs.dropLast))
      | none => .no)
    | _ => .no)
  | _, _ => .no
theorem put_lst {K : PySem.W.Frag} {μ : Nat → Addr} {M : Mem} {H : Hp} {n : Nat} {ds ds' : List D} {xs xs' : List V} (r : Rel K μ M H) (h : M[n]? = some (.lst ds)) (hx : H (μ n) = some (.lst xs)) (q : DVs K μ M.length H ds' xs') :
    Rel K μ (M.set n (.lst ds')) (upd H (μ n) (.lst xs')) ∧ Lift μ M.length H μ (M.set n (.lst ds')).length (upd H (μ n) (.lst xs')) := by
  have hn : n < M.length := (List.getElem?_eq_some_iff.mp h).1
  have l : Lift μ M.length H μ M.length (upd H (μ n) (.lst xs')) := ⟨Nat.le_refl _, fun _ _ => rfl, Kp.lst hx, fun b u e hne => by rw [upd_ne (fun z => hne n hn z.symm)]; exact e, fun n h h' => absurd h (Nat.not_le.mpr h'), fun b e => dom_upd e⟩
  exact r.put hn ⟨xs', upd_same, q.lift l⟩
section
variable {X : Cx} {W : WX} {e o : Expr} {es : List Expr} {fo : FE} {g : FA} {apos cpos : Pos}
/-- o.append(e) -/
theorem me_append (ho : ME X W o fo) (ha : MA X W (e :: es) g) (hbase : attributeBase o "append" X.env (eval o X.env) = eval o X.env := by rfl)
    (hfew : ((backTo cpos (starEach (e :: es) X.env)).all (fun x => !x.1) && (backToKw cpos (keywordEach [] X.env)).all (fun x => x.1.isSome) && decide ((e :: es).length + ([] : List Keyword).length + (if ([] : List Keyword).isEmpty then 0 else 1) < 30)) = true := by rfl)
    (hline : (apos.endLine == cpos.line) = true := by rfl) (hs : starEach (e :: es) X.env = (false, eval e X.env) :: starEach es X.env := by rfl) (hplain : (backTo cpos (starEach es X.env)).any (·.1) = false := by rfl) :
    ME X W (.Call (.Attribute o "append" apos) (e :: es) [] cpos) (fun ρ M => (fo ρ M).bind fun x M1 => match x with
      | .ref n => (match M1[n]? with
        | some (.lst _) => (g ρ M1).bind fun ds M2 => gAppend x ds M2
        | _ => .no)
      | _ => .no) := by
  refine ⟨fun pins s σ H Q I h => ?_⟩
  refine (pe_bm PySem.F.plainAttrs_list PySem.F.slot_list_append PySem.F.type_list_append mt_append ho ha hbase hfew hline hs hplain).run pins s σ H Q I ?_
  refine tM.mono (fun v H1 ⟨μ, M, ρ, d, r, e, q, a1⟩ => ?_) (tM.seq (rel := DV X.K) h)
  split at a1
  · rename_i n
    split at a1
    · rename_i xs hx
      obtain ⟨hn, ev⟩ := ref_dv q
      subst ev
      obtain ⟨ys, hy, _⟩ := r.obj n _ hx
      refine ⟨.inl ⟨rfl, ys, SqL.of hy⟩, ?_⟩
      have a2 := Ans.bind (rel := DVs X.K) a1
      refine ⟨μ, M, ρ, r, e, a2.mono (fun us H2 ⟨μ1, M1, ds, l, r1, q1, a3⟩ => ?_) fun _ _ _ z => z⟩
      cases ds with
      | nil => exact a3.elim
      | cons d dr =>
        cases dr with
        | cons _ _ => exact a3.elim
        | nil =>
          obtain ⟨v2, rr, ev, q2, q3⟩ := q1.inv_cons
          rw [q3.inv_nil] at ev
          subst ev
          have a3 : Ans X.K (DV X.K) (fun c d H' => W c d σ H') μ1 M1.length H2 (match M1[n]? with
            | some (.lst xs) => if xs.length < sizeLine then R.ok D.non (M1.set n (.lst (xs ++ [d]))) else .no
            | _ => .no) Q := a3
          split at a3
          · rename_i zs hz
            split at a3
            · rename_i hl
              obtain ⟨ws, hw, dw⟩ := r1.obj n _ hz
              have eμ : μ1 n = μ n := l.same n hn
              refine ⟨μ n, ws, v2, rfl, rfl, by rw [← eμ]; exact hw, by rw [dw.length]; exact hl, ?_⟩
              have p := put_lst r1 hz hw (dw.append (DVs.cons q2 DVs.nil))
              rw [← eμ]
              exact a3 μ1 _ _ p.2 p.1 dv_non
            · exact a3.elim
          · exact a3.elim
    · exact a1.elim
  · exact a1.elim
/-- o.pop() -/
theorem me_pop (ho : ME X W o fo) (hbase : attributeBase o "pop" X.env (eval o X.env) = eval o X.env := by rfl) (hline : (apos.endLine == cpos.line) = true := by rfl) :
    ME X W (.Call (.Attribute o "pop" apos) [] [] cpos) (fun ρ M => (fo ρ M).bind fun x M1 => gPop x [] M1) := by
  refine ⟨fun pins s σ H Q I h => ?_⟩
  refine (pe_bm0 PySem.F.plainAttrs_list PySem.F.slot_list_pop PySem.F.type_list_pop mt_pop ho hbase hline).run pins s σ H Q I ?_
  refine tM.mono (fun v H1 ⟨μ, M, ρ, d, r, e, q, a1⟩ => ?_) (tM.seq (rel := DV X.K) h)
  unfold gPop at a1
  split at a1
  · rename_i n _
    split at a1
    · rename_i xs hx
      split at a1
      · rename_i d hd
        obtain ⟨hn, ev⟩ := ref_dv q
        subst ev
        obtain ⟨ys, hy, dy⟩ := r.obj n _ hx
        obtain ⟨w', hw, dw⟩ := dy.get hd
        refine ⟨.inl ⟨rfl, ys, SqL.of hy⟩, μ n, ys, w', rfl, rfl, hy, by rw [dy.length]; exact hw, ?_⟩
        have p := put_lst r hx hy dy.dropLast
        exact a1 μ _ _ p.2 p.1 (dw.lift (by have := p.2; rw [List.length_set] at this ⊢; exact this))
      · exact a1.elim
    · exact a1.elim
  · exact a1.elim
end
/-! ### targets -/
def setD (o i d : D) (M : Mem) : Option Mem := match o, i with
  | .ref n, .int k => (match M[n]? with
    | some (.lst xs) => (match ixN xs.length k with
      | some j => some (M.set n (.lst (xs.set j d)))
      | none => none)
    | _ => none)
  | _, _ => none
def gSb (fo fi : FE) : FG := fun d ρ M => SR.of (fo ρ M) ρ fun o M1 => SR.of (fi ρ M1) ρ fun i M2 => match setD o i d M2 with
  | some M3 => .go .nx ρ M3
  | none => .no
def MGs (X : Cx) (W : WX) (ts : List Expr) (g : List D → FStm) : Prop := PGs X ts (fun vs σ H Q => ∃ μ M ρ ds, Rel X.K μ M H ∧ EV X.K μ M.length H ρ σ ∧ DVs X.K μ M.length H ds vs ∧
  AnsS X.K W μ M.length H (g ds ρ M) { nx := Q, rt := fun _ _ => False })
def gsN : List D → FStm := fun ds ρ M => match ds with
  | [] => .go .nx ρ M
  | _ => .no
def gsC (g : FG) (gs : List D → FStm) : List D → FStm := fun ds ρ M => match ds with
  | d :: r => (g d ρ M).then (gs r)
  | _ => .no
def gTp (n : Nat) (gs : List D → FStm) : FG := fun d ρ M => match d with
  | .tup ds => if ds.length = n then gs ds ρ M else .no
  | _ => .no
section
variable {X : Cx} {W : WX} {t o i e : Expr} {ts : List Expr} {fo fi f : FE} {g : FG} {gs : List D → FStm} {pos : Pos}
theorem PGs.weak {t t' : TGs} (h : PGs X ts t) (w : ∀ vs σ H Q, t' vs σ H Q → t vs σ H Q) : PGs X ts t' := ⟨fun pins s σ H vs us Q I r hw => h.run pins s σ H vs us Q I r (w vs σ H Q hw)⟩
theorem mgs_nil : MGs X W [] gsN := by
  refine PGs.weak pgs_nil fun vs σ H Q ⟨μ, M, ρ, ds, r, e, q, a⟩ => ?_
  unfold gsN at a
  split at a
  · exact ⟨q.inv_nil, a μ H σ (Lift.refl ..) r e⟩
  · exact a.elim
theorem mgs_cons (h1 : MG X W t g) (h2 : MGs X W ts gs) (hs : (assignEach (t :: ts) X.env).map (·.2) = assign t X.env :: (assignEach ts X.env).map (·.2) := by rfl) : MGs X W (t :: ts) (gsC g gs) := by
  refine PGs.weak (pgs_cons h1 h2 hs) fun vs σ H Q ⟨μ, M, ρ, ds, r, e, q, a⟩ => ?_
  unfold gsC at a
  split at a
  · rename_i d ds'
    obtain ⟨v, vr, ev, q1, q2⟩ := q.inv_cons
    refine ⟨v, vr, ev, μ, M, ρ, d, r, e, q1, ?_⟩
    cases hg : g d ρ M with
    | go f ρ' M' =>
      rw [hg] at a
      cases f with
      | nx => exact fun μ' H' σ' l' r' e' => ⟨μ', M', ρ', ds', r', e', q2.lift l', AnsS.rebase l' a⟩
      | bk => exact a
      | ct => exact a
      | ret d => exact a
    | ex x ρ' M' => rw [hg] at a; exact a
    | no => rw [hg] at a; exact a
  · exact a.elim
theorem mg_tup {n k : Nat} (hc : X.calm = true) (h : MGs X W ts gs) (hn : (assignEach ts X.env).length = n := by rfl) (hst : (assignEach ts X.env).findIdx? (·.1) = none := by rfl) : MG X W (.Tuple ts k pos) (gTp n gs) := by
  refine ⟨fun pins s σ H v u Q I rv ⟨μ, M, ρ, d, r, e, q, a⟩ => ?_⟩
  unfold gTp at a
  split at a
  · split at a
    · rename_i ds hl
      obtain ⟨p, xs, ev, sq, dq⟩ := tup_dv q
      refine (pg_tup hc h hn hst).run pins s σ H v u Q I rv ⟨p, xs, ev, sq, by rw [dq.length]; exact hl, μ, M, ρ, ds, r, e, dq, a⟩
    · exact a.elim
  · exact a.elim
theorem mg_sub (ho : ME X W o fo) (hi : ME X W i fi)
    (ha : ∀ v, assign (.Subscript o i pos) X.env v = (do
      let ov ← holding [v] (eval o X.env)
      let iv ← holding [v, ov] (eval i X.env)
      standAt pos
      holding [v, ov, iv] (setItem ov iv v)
      release [v, ov, iv] []) := by intro _; rfl) : MG X W (.Subscript o i pos) (gSb fo fi) := by
  refine ⟨fun pins s σ H v u Q I rv ⟨μ, M, ρ, d, r, e, q, a⟩ => ?_⟩
  refine (pg_sub ho hi set_list ha).run pins s σ H v u Q I rv ?_
  refine ⟨μ, M, ρ, r, e, ?_⟩
  unfold gSb at a
  cases h1 : fo ρ M with
  | no => rw [h1] at a; exact a
  | ex x M1 => rw [h1] at a; exact fun μ' H' c dd l' r' x' => a μ' H' σ c dd l' r' (e.lift l') x'
  | ok o1 M1 =>
    rw [h1] at a
    refine fun μ1 H1 ov l1 r1 q1 => ⟨μ1, M1, ρ, r1, e.lift l1, ?_⟩
    have a := AnsS.rebase l1 a
    cases h2 : fi ρ M1 with
    | no => unfold SR.of at a; dsimp only at a; rw [h2] at a; exact a
    | ex x M2 => unfold SR.of at a; dsimp only at a; rw [h2] at a; exact fun μ' H' c dd l' r' x' => a μ' H' σ c dd l' r' ((e.lift l1).lift l') x'
    | ok i1 M2 =>
      unfold SR.of at a; dsimp only at a; rw [h2] at a
      refine fun μ2 H2 iv l2 r2 q2 => ?_
      have a := AnsS.rebase l2 a
      dsimp only at a
      split at a
      · rename_i M3 h3
        unfold setD at h3
        split at h3
        · rename_i n k _
          split at h3
          · rename_i xs hx
            split at h3
            · rename_i j hj
              cases h3
              obtain ⟨hn, ev⟩ := ref_dv (q1.lift l2)
              obtain ⟨ys, hy, dy⟩ := r2.obj n _ hx
              have p := put_lst r2 hx hy (dy.set (q.lift (l1.trans l2)) j)
              refine ⟨μ2 n, ys, k, j, ev, int_dv q2, hy, by rw [dy.length]; exact hj, ?_⟩
              exact a μ2 _ σ p.2 p.1 (((e.lift l1).lift l2).lift p.2)
            · cases h3
          · cases h3
        · cases h3
      · exact a.elim
/-- target = e, any target -/
theorem ms_asgT (he : ME X W e f) (hg : MG X W t g) (hs : swapsWithSole [t] e pos.line X.env = pure false := by rfl) (hw : swappedStores [t] e X.env = pure none := by rfl)
    (h1 : (assignEach [t] X.env).map (·.2) = [assign t X.env] := by rfl) : MS X W (.Assign [t] e pos) (fun ρ M => SR.of (f ρ M) ρ fun d M1 => match g d ρ M1 with
      | .go .nx ρ' M' => .go .nx ρ' M'
      | .ex e ρ' M' => .ex e ρ' M'
      | _ => .no) := by
  refine PS.weak (ps_asg he hg hs hw h1) fun D σ H h => ?_
  refine tM.mono (fun v H1 ⟨μ, M, ρ, d, r, e, q, a⟩ => ⟨μ, M, ρ, d, r, e, q, ?_⟩) (tSt.expr (rel := DV X.K) h)
  cases hg : g d ρ M with
  | go f ρ' M' =>
    rw [hg] at a
    cases f with
    | nx => exact a
    | bk => exact a.elim
    | ct => exact a.elim
    | ret d => exact a.elim
  | ex x ρ' M' => rw [hg] at a; exact a
  | no => rw [hg] at a; exact a
def sAsgT (f : FE) (g : FG) : FStm := fun ρ M => SR.of (f ρ M) ρ fun d M1 => match g d ρ M1 with
  | .go .nx ρ' M' => .go .nx ρ' M'
  | .ex e ρ' M' => .ex e ρ' M'
  | _ => .no
theorem ms_asgT' (he : ME X W e f) (hg : MG X W t g) (hs : swapsWithSole [t] e pos.line X.env = pure false := by rfl) (hw : swappedStores [t] e X.env = pure none := by rfl)
    (h1 : (assignEach [t] X.env).map (·.2) = [assign t X.env] := by rfl) : MS X W (.Assign [t] e pos) (sAsgT f g) := ms_asgT he hg hs hw h1
/-- a, b = x, y and a, b, c = x, y, z, stored from the right -/
def sPar (is : List Nat) (g : FA) : FStm := fun ρ M => SR.of (g ρ M) ρ fun ds M1 => if ds.length = is.length then .go .nx ((is.zip ds).foldl (fun ρ p => ρ.set p.1 (some p.2)) ρ) M1 else .no
theorem ms_par {i j : Nat} {x y : Str} {a b : Expr} {g : FA} {px py pt : Pos} {kt k2 pt2} (hc : X.calm = true) (hN : X.N.Nodup) (hi : X.N[i]? = some x) (hj : X.N[j]? = some y) (hij : i ≠ j)
    (hx : X.env.scope.names.lookup x = some .local) (hy : X.env.scope.names.lookup y = some .local) (ha : MA X W [a, b] g)
    (hw : swappedStores [.Tuple [.Name x px, .Name y py] kt pt] (.Tuple [a, b] k2 pt2) X.env = pure (some [x, y]))
    (hs : swapsWithSole [.Tuple [.Name x px, .Name y py] kt pt] (.Tuple [a, b] k2 pt2) pos.line X.env = pure false := by rfl) :
    MS X W (.Assign [.Tuple [.Name x px, .Name y py] kt pt] (.Tuple [a, b] k2 pt2) pos) (sPar [i, j] g) := by
  refine PS.weak (ps_par hc hN hi hj hij hx hy ha hw hs) fun D σ H h => ?_
  refine tM.mono (fun vs H1 ⟨μ, M, ρ, ds, r, e, q, a⟩ => ?_) (tSt.expr (rel := DVs X.K) h)
  split at a
  · rename_i hl
    match ds, hl, q, a with
    | [d1, d2], _, q, a =>
      obtain ⟨v1, r1, e1, q1, q2⟩ := q.inv_cons
      obtain ⟨v2, r2, e2, q3, q4⟩ := q2.inv_cons
      refine ⟨v1, v2, by rw [e1, e2, q4.inv_nil], a μ H1 _ (Lift.refl ..) r ((e.set q1 i).set q3 j)⟩
  · exact a.elim
theorem ms_par3 {i j l : Nat} {x y z : Str} {a b c : Expr} {g : FA} {px py pz pt : Pos} {kt k2 pt2} (hc : X.calm = true) (hN : X.N.Nodup) (hi : X.N[i]? = some x) (hj : X.N[j]? = some y) (hl : X.N[l]? = some z) (hij : i ≠ j) (hil : i ≠ l) (hjl : j ≠ l)
    (hx : X.env.scope.names.lookup x = some .local) (hy : X.env.scope.names.lookup y = some .local) (hz : X.env.scope.names.lookup z = some .local) (ha : MA X W [a, b, c] g)
    (hw : swappedStores [.Tuple [.Name x px, .Name y py, .Name z pz] kt pt] (.Tuple [a, b, c] k2 pt2) X.env = pure (some [x, y, z]))
    (hs : swapsWithSole [.Tuple [.Name x px, .Name y py, .Name z pz] kt pt] (.Tuple [a, b, c] k2 pt2) pos.line X.env = pure false := by rfl) :
    MS X W (.Assign [.Tuple [.Name x px, .Name y py, .Name z pz] kt pt] (.Tuple [a, b, c] k2 pt2) pos) (sPar [i, j, l] g) := by
  refine PS.weak (ps_par3 hc hN hi hj hl hij hil hjl hx hy hz ha hw hs) fun D σ H h => ?_
  refine tM.mono (fun vs H1 ⟨μ, M, ρ, ds, r, e, q, a⟩ => ?_) (tSt.expr (rel := DVs X.K) h)
  split at a
  · rename_i hl
    match ds, hl, q, a with
    | [d1, d2, d3], _, q, a =>
      obtain ⟨v1, r1, e1, q1, q2⟩ := q.inv_cons
      obtain ⟨v2, r2, e2, q3, q4⟩ := q2.inv_cons
      obtain ⟨v3, r3, e3, q5, q6⟩ := q4.inv_cons
      refine ⟨v1, v2, v3, by rw [e1, e2, e3, q6.inv_nil], a μ H1 _ (Lift.refl ..) r (((e.set q1 i).set q3 j).set q5 l)⟩
  · exact a.elim
/-! ### walks -/
theorem mi_it {tg : Expr} (hl : ME X W e f) : MI X W tg e (wIt f) := by
  refine ⟨fun pins s σ H R I h => ?_⟩
  refine thn (hl.run pins s σ H _ I (tM.seq (rel := DV X.K) h)) fun v s1 ⟨x, H1, I1, r1, μ, M, ρ, d, r, e, q, a⟩ => ?_
  cases d with
  | tup ds =>
    obtain ⟨p, xs, ev, sq, dq⟩ := tup_dv q
    subst ev
    cases r1
    obtain ⟨its, rv, ht, hz⟩ := I1.tuple sq
    refine wpAny_pyIter_tuple (show s1.heap.IsTuple p its.toArray from ht) ?_
    refine ⟨s1.heap.objs.size, [s1.heap.objs.size], _, _, H1, rfl, I1.kept (t' := s1.toks) fun b o e => Heap.get?_push_of_some _ e, turn_tuple p _, ⟨_, Heap.get?_push_size _ rfl, rfl, rfl⟩, fun b hb => ?_, a μ H1 _ (Lift.refl ..) r (wk_tup dq sq)⟩
    have e : b = s1.heap.objs.size := by simpa using hb
    subst e
    exact I1.fpOk (Nat.le_refl _) (I1.hok.fresh (Nat.le_refl _))
  | lst ds =>
    obtain ⟨p, xs, ev, sq, dq⟩ := lst_dv q
    subst ev
    cases r1
    obtain ⟨its, rv, ht, hz⟩ := I1.list sq.seq
    refine wpAny_pyIter_list ht.isList ?_
    refine ⟨s1.heap.objs.size, [s1.heap.objs.size], _, _, H1, rfl, I1.kept (t' := s1.toks) fun b o e => Heap.get?_push_of_some _ e, turn_list p _, ⟨_, Heap.get?_push_size _ rfl, rfl, rfl⟩, fun b hb => ?_, a μ H1 _ (Lift.refl ..) r (wk_lst dq sq)⟩
    have e : b = s1.heap.objs.size := by simpa using hb
    subst e
    exact I1.fpOk (Nat.le_refl _) (I1.hok.fresh (Nat.le_refl _))
  | ref n =>
    obtain ⟨hn, ev⟩ := ref_dv q
    subst ev
    cases r1
    dsimp only [wkOf] at a
    cases ho : M[n]? with
    | none => simp [hn] at ho
    | some o =>
      cases o with
      | lst ds =>
        rw [ho] at a
        obtain ⟨xs, hx, dx⟩ := r.obj n _ ho
        obtain ⟨its, rv, ht, hz⟩ := I1.list (SqL.of hx)
        refine wpAny_pyIter_list ht.isList ?_
        refine ⟨s1.heap.objs.size, [s1.heap.objs.size], _, _, H1, rfl, I1.kept (t' := s1.toks) fun b o e => Heap.get?_push_of_some _ e, turn_list (μ n) _, ⟨_, Heap.get?_push_size _ rfl, rfl, rfl⟩, fun b hb => ?_, a μ H1 _ (Lift.refl ..) r ⟨hn, rfl⟩⟩
        have e : b = s1.heap.objs.size := by simpa using hb
        subst e
        exact I1.fpOk (Nat.le_refl _) (I1.hok.fresh (Nat.le_refl _))
      | dic kvs => rw [ho] at a; exact a.elim
      | ins c fs => rw [ho] at a; exact a.elim
  | non => exact a.elim
  | bl b => exact a.elim
  | int i => exact a.elim
  | str x => exact a.elim
  | gl x => exact a.elim
  | ty x => exact a.elim
end
end Br
set_option Elab.async false
set_option linter.all false
set_option maxRecDepth 100000
set_option maxHeartbeats 4000000
namespace Br
open PySem PySem.Spec PyProof.Rows L2
def eAppend (fo : FE) (g : FA) : FE := fun ρ M => (fo ρ M).bind fun x M1 => match x with
  | .ref n => (match M1[n]? with
    | some (.lst _) => (g ρ M1).bind fun ds M2 => gAppend x ds M2
    | _ => .no)
  | _ => .no
def ePop (fo : FE) : FE := fun ρ M => (fo ρ M).bind fun x M1 => gPop x [] M1
def gMul' : F2 := fun a b M => match a, b with
    | .int i, .int j => if mulOk i j = true then .ok (.int (i * j)) M else .no
    | .tup xs, .int k => if xs ≠ [] ∧ 2 ≤ k ∧ k ≤ 1000 ∧ xs.length ≤ 1000 then .ok (.tup (List.replicate k.toNat xs).flatten) M else .no
    | _, _ => .no
section
variable {X : Cx} {W : WX} {e o a b : Expr} {es : List Expr} {fo f fa fb : FE} {g : FA} {apos cpos pos p : Pos} {tg : Expr}
theorem me_app (ho : ME X W o fo) (ha : MA X W (e :: es) g) (hbase : attributeBase o "append" X.env (eval o X.env) = eval o X.env := by rfl)
    (hfew : ((backTo cpos (starEach (e :: es) X.env)).all (fun x => !x.1) && (backToKw cpos (keywordEach [] X.env)).all (fun x => x.1.isSome) && decide ((e :: es).length + ([] : List Keyword).length + (if ([] : List Keyword).isEmpty then 0 else 1) < 30)) = true := by rfl)
    (hline : (apos.endLine == cpos.line) = true := by rfl) (hs : starEach (e :: es) X.env = (false, eval e X.env) :: starEach es X.env := by rfl) (hplain : (backTo cpos (starEach es X.env)).any (·.1) = false := by rfl) :
    ME X W (.Call (.Attribute o "append" apos) (e :: es) [] cpos) (eAppend fo g) := me_append ho ha hbase hfew hline hs hplain
theorem me_pop' (ho : ME X W o fo) (hbase : attributeBase o "pop" X.env (eval o X.env) = eval o X.env := by rfl) (hline : (apos.endLine == cpos.line) = true := by rfl) :
    ME X W (.Call (.Attribute o "pop" apos) [] [] cpos) (ePop fo) := me_pop ho hbase hline
theorem om_mul' : OpM X (binaryOp .Mult) gMul' := om_mul
def wRng1 (g : FA) : En → Mem → R Wk := fun ρ M => (g ρ M).bind fun ds M1 => match ds with
  | [.int j] => if -(2 ^ 62) ≤ j ∧ j < 2 ^ 62 then .ok (.items (rangeD 0 j.toNat)) M1 else .no
  | _ => .no
def wRng2 (g : FA) : En → Mem → R Wk := fun ρ M => (g ρ M).bind fun ds M1 => match ds with
  | [.int i, .int j] => if (-(2 ^ 62) ≤ i ∧ i < 2 ^ 62) ∧ -(2 ^ 62) ≤ j ∧ j < 2 ^ 62 then .ok (.items (rangeD i (j - i).toNat)) M1 else .no
  | _ => .no
theorem mi_range1 (hg : Gl X "range") (hm : X.mg "range" = none) (ha : MA X W [a] g) (hs : starEach [a] X.env = [(false, eval a X.env)] := by rfl) : MI X W tg (.Call (.Name "range" p) [a] [] pos) (wRng1 g) := by
  refine PI.weak (pi_range1 hg hm ha hs) fun σ H Q h => ?_
  refine tM.mono (fun vs H1 ⟨μ, M, ρ, ds, r, e, q, a⟩ => ?_) (tM.seq (rel := DVs X.K) h)
  split at a
  · rename_i j
    split at a
    · rename_i hj
      obtain ⟨v1, r1, e1, q1, q2⟩ := q.inv_cons
      refine ⟨j, by rw [e1, q2.inv_nil, int_dv q1], hj.1, hj.2, a μ H1 _ (Lift.refl ..) r (wk_range 0 j.toNat)⟩
    · exact a.elim
  · exact a.elim
theorem mi_range2 (hg : Gl X "range") (hm : X.mg "range" = none) (ha : MA X W [a, b] g) (hs : starEach [a, b] X.env = [(false, eval a X.env), (false, eval b X.env)] := by rfl) (hs2 : starEach [b] X.env = [(false, eval b X.env)] := by rfl) : MI X W tg (.Call (.Name "range" p) [a, b] [] pos) (wRng2 g) := by
  refine PI.weak (pi_range2 hg hm ha hs hs2) fun σ H Q h => ?_
  refine tM.mono (fun vs H1 ⟨μ, M, ρ, ds, r, e, q, a⟩ => ?_) (tM.seq (rel := DVs X.K) h)
  split at a
  · rename_i i j
    split at a
    · rename_i hj
      obtain ⟨v1, r1, e1, q1, q2⟩ := q.inv_cons
      obtain ⟨v2, r2, e2, q3, q4⟩ := q2.inv_cons
      refine ⟨i, j, by rw [e1, e2, q4.inv_nil, int_dv q1, int_dv q3], ⟨hj.1.1, hj.1.2, hj.2.1, hj.2.2⟩, a μ H1 _ (Lift.refl ..) r (wk_range i (j - i).toNat)⟩
    · exact a.elim
  · exact a.elim
end
/-! ### the law's end -/
/-- data of the script -/
def scriptD (ns : List Int) : D := .lst (ns.map .int)
theorem script_dv {K : PySem.W.Frag} {H : Hp} {a : Addr} {ns : List Int} (ho : Only H) (hs : SqL K H a (ns.map V.int)) (μ : Nat → Addr) (N : Nat) : DV K μ N H (scriptD ns) (.ref a) := by
  refine dv_lst (xs := ns.map V.int) ?_ (DVs.of_ints ns)
  rcases hs with (h | ⟨o, h⟩) | h
  · rcases ho a with z | ⟨o, xs, z⟩
    · rw [z] at h; cases h
    · rw [z] at h; cases h
  · exact .inl ⟨o, h⟩
  · exact .inr h

theorem hid_keeps {h : Heap} {H : Hp} {b : Addr} {o : Obj} (e : h.get? b = some o) (n : H b = none) : (hidT h H).get? b = some o := hidT_get e n
/-- the heaps that a law is begun with: nothing, or the locked script alone -/
def onlyAt (a : Addr) (o : Obj) (xs : List V) (b : Bool) : Hp := fun c => if b = true ∧ c = a then some (.frz o (.lst xs)) else none
theorem onlyAt_some {a c : Addr} {o : Obj} {xs : List V} {b : Bool} {u : HO} (h : onlyAt a o xs b c = some u) : b = true ∧ c = a ∧ u = .frz o (.lst xs) := by
  unfold onlyAt at h
  split at h
  · rename_i q; cases h; exact ⟨q.1, q.2, rfl⟩
  · cases h
theorem onlyAt_other {a c : Addr} {o : Obj} {xs : List V} {b : Bool} (h : b = true → c ≠ a) : onlyAt a o xs b c = none := by
  unfold onlyAt
  split
  · rename_i q; exact absurd q.2 (h q.1)
  · rfl
/-- the law's call, by what its def means -/
theorem lawM {P : Program} {w : World} {K : PySem.W.Frag} {mg mb : Str → Option Value} {k : Nat} {fa a : Addr} {fd : FuncData} {x : Str} {m : FL} {s : Shared} {us : List Value} {ns : List Int}
    (hK : K.In s.heap) (hm : s.heap.Ns mainGlobals mg) (hb1 : s.heap.Ns builtinsNs mb) (hb2 : ∀ y : Str, y ≠ "__name__" → mb y = bootBuiltins y) (hlim : s.heap.NoLimit) (hgen : s.gens = #[])
    (hobj : s.heap.get? a = some { cls := .type "list", data := .seq us.toArray }) (hi : IntsAre us ns) (hl : ns.length ≤ sizeLine) (hr : Room k callerA) (hgd : callerA.guards = some [])
    (F : ∀ base : Heap, K.In base → base.Ns mainGlobals mg → FnM P w K mg base k fa fd [x] m ∧ AB P w K mg base fd [x] 1 [] (fun ds _ => ds))
    (hlaw : ∃ M, m [scriptD ns] [] = .ok (.bl true) M) :
    codeAny (model P w) callerA (.call (.ref fa) ⟨[.ref a], []⟩) (fun r s' => r = .ok (.ret (.bool true)) ∧ OldK s.heap s'.heap ∧ s'.os = s.os ∧ AllBare s'.gens) s := by
  have rv := vals_ints hi
  let o : Obj := { cls := .type "list", data := .seq us.toArray }
  let H : Hp := onlyAt a o (ns.map V.int) (K.lookup a).isNone
  have hH : ∀ c u, H c = some u → K.lookup a = none ∧ c = a ∧ u = .frz o (.lst (ns.map V.int)) := fun c u h => by
    obtain ⟨q1, q2, q3⟩ := onlyAt_some h
    exact ⟨Option.isNone_iff_eq_none.mp q1, q2, q3⟩
  have hfree : ∀ {c : Addr} {ob : Obj} {es : Array DictEntry} {ep : Nat}, s.heap.get? c = some ob → ob.data = .dict es ep → H c = none := fun {c ob es ep} e d => by
    cases q : H c with
    | none => rfl
    | some u =>
      obtain ⟨_, q2, _⟩ := hH c u q
      rw [q2, hobj] at e
      cases e
      cases (show Data.seq us.toArray _ = Data.dict es ep from d)
  have hns : ∀ {c : Addr} {f : Str → Option Value}, s.heap.Ns c f → (hidT s.heap H).Ns c f := fun {c f} ⟨ob, es, ep, e, d, r⟩ => ⟨ob, es, ep, hid_keeps e (hfree e d), d, r⟩
  have hKin : K.In (hidT s.heap H) := fun c ob e => hid_keeps (hK c ob e) (by
    cases q : H c with
    | none => rfl
    | some u =>
      obtain ⟨q1, q2, _⟩ := hH c u q
      rw [q2, q1] at e
      cases e)
  have hok : HOk P w H s.heap := fun c u q => by
    obtain ⟨_, q2, q3⟩ := hH c u q
    subst q2; subst q3
    exact ⟨hobj, by rw [List.length_map]; exact hl, us, _, rv, hobj⟩
  have hmod : Mod K mg (hidT s.heap H) := ⟨hKin, hns hm, ⟨mb, hns hb1, hb2⟩, by obtain ⟨mc, h1, h2⟩ := hlim; exact ⟨mc, hns h1, h2⟩⟩
  have hnof : ∀ c, c ∉ frs ([] : List Env) := fun c z => by cases z
  have e0 : Env0 P w K mg (hidT s.heap H) callerA [] s H := ⟨rfl, hmod, fun c ob e => of_hidT e, Nat.le_of_eq (hidT_size _ _), trivial, fun c z => absurd z (hnof c), hok, .of_eq hgen⟩
  obtain ⟨F1, F2⟩ := F _ hKin (hns hm)
  have hsc : DV K (fun _ => 0) 0 H (scriptD ns) (.ref a) := by
    refine dv_lst (xs := ns.map V.int) ?_ (DVs.of_ints ns)
    cases q : K.lookup a with
    | none => exact .inl ⟨o, by show onlyAt a o (ns.map V.int) (K.lookup a).isNone a = _; unfold onlyAt; rw [q]; exact if_pos ⟨rfl, rfl⟩⟩
    | some ob =>
      have e := hK a ob q
      rw [hobj] at e
      cases e
      exact .inr ⟨_, us.toArray, _, q, rfl, rfl, rfl, by rw [List.size_toArray, hi.length]; exact hl, by simpa using rv⟩
  have hrel : Rel K (fun _ => 0) [] H := ⟨fun n ob e => by simp at e, fun i j hi => by simp at hi⟩
  have hbn := F2.bnd callerA [] s H (fun _ _ _ => False) [.ref a] [] [.ref a] [] (fun _ => 0) [] [scriptD ns] [] e0 rfl rfl (.cons rfl .nil) .nil hrel (DVs.cons hsc DVs.nil) DVs.nil
  obtain ⟨M', hm'⟩ := hlaw
  refine codeAny_mono (F1.run callerA [] s H ⟨[.ref a], []⟩ (fun v _ => v = .bl true) (fun _ _ _ => False) _ hr hgd e0 hbn fun vs H2 ⟨r2, l2, q2⟩ => ?_) fun r s' h => ?_
  · refine ⟨fun _ => 0, [], [scriptD ns], r2, q2, ?_⟩
    rw [hm']
    exact fun μ' H' v l r q => bl_dv q
  · cases r with
    | error e =>
      obtain ⟨_, _, _, _, _, _, _, _, _, _, _, _, z⟩ := h
      exact z.elim
    | ok fl =>
      cases fl with
      | next => exact False.elim h
      | brk => exact False.elim h
      | cont => exact False.elim h
      | ret u =>
        obtain ⟨v, H', hos, hbare, hun, hok', hrv, hv⟩ := h
        subst hv
        have hu : u = Value.bool true := hrv
        subst hu
        refine ⟨rfl, OldK.of_keep fun c ob e => ?_, hos, hbare⟩
        cases q : H c with
        | none => exact hun.keep c ob e q (hnof c) (by simp)
        | some u2 =>
          obtain ⟨_, q2, q3⟩ := hH c u2 q
          rw [q3] at q
          have z := hun.frzs c _ _ q
          have z1 := (hok c _ q).1
          have z2 := (hok' c _ z).1
          rw [e] at z1
          cases z1
          exact z2
/-- THE END of a law by its meaning: F gives the written part, the function object, its meaning over every base -/
theorem walkM {l : PySem.W.OpenLaw} {n k : Nat} {q : Program} {loose : List Str} {XP : (Str → Option Value) → Heap → Prop} {YP : World → Heap → Prop} {d : DefRec} {x : Str} {m : FL}
    (hn : l.most = some n) (hn2 : n ≤ sizeLine) (hdf : d.params.defaults = []) (hr : Room k callerA) (hgd : callerA.guards = some [])
    (F : ∀ (w : World) (mg : Str → Option Value) (fa : Addr) (h : Heap), YP w h → h.Ns mainGlobals mg → mg d.name = some (.ref fa) →
      ∃ (K : PySem.W.Frag) (fd : FuncData), K.In h ∧ ∀ base : Heap, K.In base → base.Ns mainGlobals mg → FnM l.prog w K mg base k fa fd [x] m ∧ AB l.prog w K mg base fd [x] 1 [] (fun ds _ => ds))
    (hlaw : ∀ ns : List Int, ns.length ≤ n → ∃ M, m [scriptD ns] [] = .ok (.bl true) M) :
    PySem.W.WalkO q loose XP YP l.row.toRowW d [] (fun f vs => PySem.call f vs) := by
  refine Att.attach_call hn hdf fun w s₀ s₁ mg mb fa o pm cd doc a vs ns G Y ho hd hcd hmg hobj hints hlen hg => ?_
  obtain ⟨K, fd, KX, hF⟩ := F w mg fa _ Y G.T.g hmg
  exact lawM KX G.T.g G.T.b G.T.builtins G.T.nolimit hg hobj hints (Nat.le_trans hlen hn2) hr hgd hF (hlaw ns hlen)
end Br
set_option Elab.async false
set_option linter.all false
set_option maxRecDepth 100000
set_option maxHeartbeats 4000000
namespace Br
open PySem PySem.Spec PyProof.Rows L2
def pk {α : Type} (l : List α) (i : Nat) : List α := l[i]?.toList
theorem vals_pk {vs : List V} {us : List Value} (r : Vals vs us) (i : Nat) : Vals (pk vs i) (pk us i) := by
  unfold pk
  cases e : vs[i]? with
  | none => rw [r.none_of e]; exact .nil
  | some v =>
    obtain ⟨u, hu, rv⟩ := r.get e
    rw [hu]
    exact .cons rv .nil
theorem dvs_pk {K : PySem.W.Frag} {μ : Nat → Addr} {N : Nat} {H : Hp} {ds : List D} {vs : List V} (q : DVs K μ N H ds vs) (i : Nat) : DVs K μ N H (pk ds i) (pk vs i) := by
  unfold pk
  cases e : ds[i]? with
  | none =>
    have h1 : ds.length ≤ i := List.getElem?_eq_none_iff.mp e
    have h2 : vs[i]? = none := List.getElem?_eq_none_iff.mpr (by rw [q.length]; exact h1)
    rw [h2]; exact DVs.nil
  | some d =>
    obtain ⟨v, hv, dv⟩ := q.get e
    rw [hv]
    exact DVs.cons dv DVs.nil
section
variable {P : Program} {w : World} {K : PySem.W.Frag} {mg : Str → Option Value} {base : Heap}
theorem AB.of_all {fd : FuncData} {ps : List Str} {n : Nat} (hb : Binds K fd ps []) (hn : n = ps.length) : AB P w K mg base fd ps n [] (fun ds _ => ds) := by
  have h := AB.of_binds (P := P) (w := w) (mg := mg) (base := base) (n := n) hb .nil Dfl.nil hn
  refine ⟨fun A outer s H E us ws vs zs μ M ds es e0 l1 l2 rv rz r q qz => ?_⟩
  have z := h.bnd A outer s H E us ws vs zs μ M ds es e0 l1 l2 rv rz r q qz
  rw [List.append_nil] at z
  exact z
/-- def f(a, *v), called by keywords alone -/
theorem AB.of_star0K {fd : FuncData} {ps : List Str} {pv : Str} (hz : ps.length ≤ 1000)
    (hb : ∀ ws : List Value, ws.length = ps.length → bindArgs fd ⟨[], ps.zip ws⟩ = (newTuple [] >>= fun t => pure (ps.zip ws ++ [(pv, t)]))) : AB P w K mg base fd (ps ++ [pv]) 0 ps (fun _ es => es ++ [.tup []]) := by
  refine ⟨fun A outer s H E us ws vs zs μ M ds es e0 l1 l2 rv rz r q qz A' Ex Q k => ?_⟩
  have hu : us = [] := List.eq_nil_of_length_eq_zero l1
  subst hu
  rw [hb ws l2]
  refine wpAny_bind (wpAny_newObj_type ?_ (Nat.zero_le _))
  refine wpAny_pure ?_
  have hfr : H s.heap.objs.size = Option.none := e0.hok.fresh (Nat.le_refl _)
  have new : ObjOk P w (upd H s.heap.objs.size (.tup [])) (s.heap.push { cls := .type "tuple", data := .seq ([] : List Value).toArray }) s.heap.objs.size (.tup []) := ⟨Nat.zero_le _, [], .nil, IsTup.new s.heap _⟩
  have e1 := StX.env0_laid e0 new
  have un : Un (frs outer) [] H (upd H s.heap.objs.size (.tup [])) s.heap (s.heap.push { cls := .type "tuple", data := .seq ([] : List Value).toArray }) := StX.un_laid hfr
  have hz : (ps ++ [pv]).zip (ws ++ [Value.ref s.heap.objs.size]) = ps.zip ws ++ [(pv, Value.ref s.heap.objs.size)] := by
    rw [List.zip_append l2.symm]; rfl
  rw [← hz]
  refine k { s with heap := s.heap.push { cls := .type "tuple", data := .seq ([] : List Value).toArray } } _ (zs ++ [V.ref s.heap.objs.size]) _ e1 un rfl (fun e s' z => ?_) (rz.append (.cons rfl .nil)) ?_ ⟨r.fresh hfr, Lift.fresh hfr, ?_⟩
  · exact StX.cxUp outer s H { s with heap := s.heap.push { cls := .type "tuple", data := .seq ([] : List Value).toArray } } (upd H s.heap.objs.size (.tup [])) E e s' un (fun b o q => Heap.get?_push_of_some _ q) rfl z
  · rw [List.length_append, List.length_append, rz.length, l2]; rfl
  · refine (qz.lift (Lift.fresh hfr)).append (DVs.cons ?_ DVs.nil)
    exact dv_tup (SqT.of upd_same) DVs.nil
end
theorem hu64 {A : Around} {k : Nat} (hr : Room k A) : A.units + 64 < cLine := hr.units
theorem hu128 {A : Around} {k : Nat} (hr : Room k A) : A.units + 128 < cLine := by have := hr.un; omega
end Br
set_option Elab.async false
set_option linter.all false
set_option maxRecDepth 100000
set_option maxHeartbeats 4000000
namespace Br
open PySem PySem.Spec PyProof.Rows L2
/-- a comparison as a test -/
def tC (f : FE) : FT := fun ρ M => (f ρ M).bind fun x M1 => match x with
  | .bl b => .ok b M1
  | _ => .no
section
variable {X : Cx} {W : WX} {a b : Expr} {fa fb : FE} {pos : Pos}
theorem R.bind_assoc {α β γ : Type} (r : R α) (f : α → Mem → R β) (g : β → Mem → R γ) : (r.bind f).bind g = r.bind fun a M => (f a M).bind g := by cases r <;> rfl
theorem mt_cmp {op : CmpOp} {g : F2} (ho : OpM X (compareOp op) g) (ha : ME X W a fa) (hb : ME X W b fb) (hm : behindInMarks op b = false) : MT X W (.Compare a [op] [b] pos) (tC (e2 g fa fb)) := by
  refine ⟨fun pins s σ H Q I h => ?_⟩
  refine (pt_cmpR (ho (fun c d H' => W c d σ H')) ha hb hm).run pins s σ H Q I ?_
  have e0 : tC (e2 g fa fb) = fun ρ M => (fa ρ M).bind fun x M1 => (fb ρ M1).bind fun y M2 => (g x y M2).bind fun z M3 => match z with
      | .bl b => .ok b M3
      | _ => .no := by
    funext ρ M
    unfold tC e2
    rw [R.bind_assoc]
    congr 1
    funext x M1
    rw [R.bind_assoc]
  rw [e0] at h
  refine tM.mono (fun v H1 ⟨μ, M, ρ, d, r, e, q, a1⟩ => ?_) (tM.seq (rel := DV X.K) h)
  have a2 := Ans.bind (rel := DV X.K) a1
  refine ⟨μ, M, ρ, r, e, a2.mono (fun u H2 ⟨μ1, M1, d1, l, r1, q1, a3⟩ => ⟨μ1, M1, d, d1, r1, q.lift l, q1, ?_⟩) fun _ _ _ z => z⟩
  have a4 := Ans.bind (rel := DV X.K) a3
  refine a4.mono (fun z H3 ⟨μ3, M3, d3, l3, r3, q3, a5⟩ => ?_) fun _ _ _ z => z
  cases d3 with
  | bl k => exact ⟨k, by unfold DV at q3; exact q3, a5 μ3 H3 k (Lift.refl ..) r3 rfl⟩
  | _ => exact a5.elim
end
section
variable {P : Program} {w : World} {K : PySem.W.Frag} {mg : Str → Option Value} {base : Heap}
/-- def f(a, *v), called by n values -/
theorem AB.of_starN {fd : FuncData} {ps : List Str} {pv : Str} (n : Nat) (hn : ps.length ≤ n) (hz : n ≤ 1000)
    (hb : ∀ us rest : List Value, us.length = ps.length → rest.length = n - ps.length → bindArgs fd ⟨us ++ rest, []⟩ = (newTuple rest >>= fun t => pure (ps.zip us ++ [(pv, t)]))) : AB P w K mg base fd (ps ++ [pv]) n [] (fun ds _ => ds.take ps.length ++ [.tup (ds.drop ps.length)]) := by
  refine ⟨fun A outer s H E us ws vs zs μ M ds es e0 l1 l2 rv rz r q qz A' Ex Q k => ?_⟩
  have hu : us = us.take ps.length ++ us.drop ps.length := (List.take_append_drop ..).symm
  have hlu : (us.take ps.length).length = ps.length := by rw [List.length_take]; omega
  show wpAny _ _ (bindArgs fd ⟨us, []⟩) _ _ _
  rw [hu, hb _ _ hlu (by rw [List.length_drop, l1])]
  have hld : (us.drop ps.length).length ≤ sizeLine := by
    rw [List.length_drop, l1]
    have : (1000 : Nat) ≤ sizeLine := by decide
    omega
  refine wpAny_bind (wpAny_newObj_type ?_ hld)
  refine wpAny_pure ?_
  have hfr : H s.heap.objs.size = Option.none := e0.hok.fresh (Nat.le_refl _)
  have new : ObjOk P w (upd H s.heap.objs.size (.tup (vs.drop ps.length))) (s.heap.push { cls := .type "tuple", data := .seq (us.drop ps.length).toArray }) s.heap.objs.size (.tup (vs.drop ps.length)) := by
    refine ⟨by rw [List.length_drop, rv.length, ← List.length_drop]; exact hld, us.drop ps.length, rv.drop _, ?_⟩
    exact IsTup.new s.heap _
  have e1 := StX.env0_laid e0 new
  have un : Un (frs outer) [] H (upd H s.heap.objs.size (.tup (vs.drop ps.length))) s.heap (s.heap.push { cls := .type "tuple", data := .seq (us.drop ps.length).toArray }) := StX.un_laid hfr
  have hz : (ps ++ [pv]).zip (us.take ps.length ++ [Value.ref s.heap.objs.size]) = ps.zip (us.take ps.length) ++ [(pv, Value.ref s.heap.objs.size)] := by
    rw [List.zip_append hlu.symm]; rfl
  rw [← hz]
  refine k { s with heap := s.heap.push { cls := .type "tuple", data := .seq (us.drop ps.length).toArray } } _ (vs.take ps.length ++ [V.ref s.heap.objs.size]) _ e1 un rfl (fun e s' z => ?_) ((rv.take _).append (.cons rfl .nil)) ?_ ⟨r.fresh hfr, Lift.fresh hfr, ?_⟩
  · exact StX.cxUp outer s H { s with heap := s.heap.push { cls := .type "tuple", data := .seq (us.drop ps.length).toArray } } (upd H s.heap.objs.size (.tup (vs.drop ps.length))) E e s' un (fun b o q => Heap.get?_push_of_some _ q) rfl z
  · rw [List.length_append, List.length_append, List.length_take, rv.length, l1]
    simp only [List.length_singleton]; omega
  · refine ((q.take _).lift (Lift.fresh hfr)).append (DVs.cons ?_ DVs.nil)
    unfold DV
    exact ⟨_, _, rfl, SqT.of upd_same, (q.drop _).lift (Lift.fresh hfr)⟩
end
end Br
set_option Elab.async false
set_option linter.all false
set_option maxRecDepth 100000
set_option maxHeartbeats 4000000
namespace Br
open PySem PySem.Spec PyProof.Rows
/-! ### plain lemmas over the functions -/
theorem sFor_inv {gg : FG} {b : FStm} (I : Nat → En → Mem → Prop) : ∀ (l : List D) (i : Nat) (ρ : En) (M : Mem), I i ρ M →
    (∀ x i ρ M, x ∈ l → I i ρ M → ∃ ρ1 M1 ρ2 M2, gg x ρ M = .go .nx ρ1 M1 ∧ b ρ1 M1 = .go .nx ρ2 M2 ∧ I (i + 1) ρ2 M2) → ∃ ρ' M', sFor gg b l ρ M = .go .nx ρ' M' ∧ I (i + l.length) ρ' M'
  | [], i, ρ, M, h, _ => ⟨ρ, M, rfl, h⟩
  | x :: l, i, ρ, M, h, hs => by
    obtain ⟨ρ1, M1, ρ2, M2, e1, e2, h2⟩ := hs x i ρ M (List.mem_cons_self ..) h
    obtain ⟨ρ', M', e3, h3⟩ := sFor_inv I l (i + 1) ρ2 M2 h2 fun x i ρ M hx => hs x i ρ M (List.mem_cons_of_mem _ hx)
    refine ⟨ρ', M', ?_, by rw [List.length_cons]; have : i + (l.length + 1) = i + 1 + l.length := by omega
                           rw [this]; exact h3⟩
    unfold sFor turn
    rw [e1]; dsimp only; rw [e2]; exact e3
/-- the same, the item and its place known -/
theorem sFor_at {gg : FG} {b : FStm} (I : Nat → En → Mem → Prop) (xs : List D) : ∀ (l : List D) (i : Nat) (ρ : En) (M : Mem), l = xs.drop i → I i ρ M →
    (∀ x i ρ M, xs[i]? = some x → I i ρ M → ∃ ρ1 M1 ρ2 M2, gg x ρ M = .go .nx ρ1 M1 ∧ b ρ1 M1 = .go .nx ρ2 M2 ∧ I (i + 1) ρ2 M2) → ∃ ρ' M', sFor gg b l ρ M = .go .nx ρ' M' ∧ I (i + l.length) ρ' M'
  | [], i, ρ, M, _, h, _ => ⟨ρ, M, rfl, h⟩
  | x :: l, i, ρ, M, hl, h, hs => by
    have hx : xs[i]? = some x := by
      have : (xs.drop i)[0]? = some x := by rw [← hl]; rfl
      simpa using this
    have hl2 : l = xs.drop (i + 1) := by
      have : (x :: l).drop 1 = (xs.drop i).drop 1 := by rw [hl]
      simpa [List.drop_drop, Nat.add_comm] using this
    obtain ⟨ρ1, M1, ρ2, M2, e1, e2, h2⟩ := hs x i ρ M hx h
    obtain ⟨ρ', M', e3, h3⟩ := sFor_at I xs l (i + 1) ρ2 M2 hl2 h2 hs
    refine ⟨ρ', M', ?_, by rw [List.length_cons]; have : i + (l.length + 1) = i + 1 + l.length := by omega
                           rw [this]; exact h3⟩
    unfold sFor turn
    rw [e1]; dsimp only; rw [e2]; exact e3
theorem mulOk_l {i j : Int} (h1 : -(2 ^ 64) < i) (h2 : i < 2 ^ 64) : mulOk i j = true := by unfold mulOk; exact decide_eq_true (.inl ⟨h1, h2⟩)
theorem mulOk_r {i j : Int} (h1 : -(2 ^ 64) < j) (h2 : j < 2 ^ 64) : mulOk i j = true := by unfold mulOk; exact decide_eq_true (.inr (.inl ⟨h1, h2⟩))
mutual
theorem toPyR_mono (rs : Nat → Option PyData) : ∀ (d : D) (p : PyData), toPyR (fun _ => none) d = some p → toPyR rs d = some p
  | .non, p, h => by unfold toPyR at h ⊢; exact h
  | .bl b, p, h => by unfold toPyR at h ⊢; exact h
  | .int b, p, h => by unfold toPyR at h ⊢; exact h
  | .str b, p, h => by unfold toPyR at h ⊢; exact h
  | .gl b, p, h => by unfold toPyR at h; cases h
  | .ty b, p, h => by unfold toPyR at h; cases h
  | .ref b, p, h => by unfold toPyR at h; cases h
  | .tup xs, p, h => by
    unfold toPyR at h ⊢
    cases e : toPysR (fun _ => none) xs with
    | none => rw [e] at h; cases h
    | some ps => rw [e] at h; rw [toPysR_mono rs xs ps e]; exact h
  | .lst xs, p, h => by
    unfold toPyR at h ⊢
    cases e : toPysR (fun _ => none) xs with
    | none => rw [e] at h; cases h
    | some ps => rw [e] at h; rw [toPysR_mono rs xs ps e]; exact h
theorem toPysR_mono (rs : Nat → Option PyData) : ∀ (d : List D) (p : List PyData), toPysR (fun _ => none) d = some p → toPysR rs d = some p
  | [], p, h => by unfold toPysR at h ⊢; exact h
  | x :: xs, p, h => by
    unfold toPysR at h ⊢
    cases e : toPyR (fun _ => none) x with
    | none => rw [e] at h; cases h
    | some q =>
      rw [e] at h; rw [toPyR_mono rs x q e]
      cases e2 : toPysR (fun _ => none) xs with
      | none => simp [e2] at h
      | some ps => rw [toPysR_mono rs xs ps e2]; simpa [e2] using h
end
/-- data that repr shows -/
def okp (d : D) : Bool := match toPyR (fun _ => none) d with
  | some p => p.layable0 && p.intsShort 13 && p.showable
  | none => false
theorem gRepr_ok {d : D} (h : okp d = true) (M : Mem) : ∃ z, gRepr [d] M = .ok (.str z) M := by
  unfold okp at h
  cases e : toPyR (fun _ => none) d with
  | none => rw [e] at h; cases h
  | some p =>
    rw [e] at h
    simp only [Bool.and_eq_true] at h
    obtain ⟨⟨h1, h2⟩, h3⟩ := h
    have e2 : toPy M d = some p := toPyR_mono _ _ _ e
    have h4 := PyData.hasDict_of_layable h1
    have h5 := shown_le13 h1 h2
    have h6 : p.depth ≤ 64 := by
      have hl' : (p.canLay0 && decide (p.depth ≤ 64) && decide (p.weight ≤ 2 ^ 20)) = true := h1
      simp only [Bool.and_eq_true, decide_eq_true_eq] at hl'
      exact hl'.1.2
    refine ⟨p.shown, ?_⟩
    unfold gRepr
    dsimp only
    rw [e2]
    dsimp only
    rw [if_pos]
    simp only [h3, h4, Bool.not_false, Bool.and_self, Bool.true_and, Bool.and_eq_true, decide_eq_true_eq]
    exact ⟨h6, Nat.le_trans h5 (by decide)⟩
end Br
set_option Elab.async false
set_option linter.all false
set_option maxRecDepth 100000
set_option maxHeartbeats 4000000
namespace Br
open PySem PySem.Spec PyProof.Rows L2
/-! ### list comprehensions -/
section
variable {K : PySem.W.Frag} {μ μ' : Nat → Addr} {N N' : Nat} {H H' : Hp}
mutual
theorem DV.kq (k : Kp H H') (le : N ≤ N') (sm : ∀ n, n < N → μ' n = μ n) : ∀ (d : D) (v : V), DV K μ N H d v → DV K μ' N' H' d v
  | .non, v, h => by unfold DV at h ⊢; exact h
  | .bl b, v, h => by unfold DV at h ⊢; exact h
  | .int i, v, h => by unfold DV at h ⊢; exact h
  | .str x, v, h => by unfold DV at h ⊢; exact h
  | .gl x, v, h => by unfold DV at h ⊢; exact h
  | .ty x, v, h => by unfold DV at h ⊢; exact h
  | .ref x, v, h => by unfold DV at h ⊢; exact ⟨Nat.lt_of_lt_of_le h.1 le, by rw [sm _ h.1]; exact h.2⟩
  | .tup ds, v, h => by
    unfold DV at h ⊢
    obtain ⟨a, xs, e, q, r⟩ := h
    exact ⟨a, xs, e, k.sqT q, DVs.kq k le sm ds xs r⟩
  | .lst ds, v, h => by
    unfold DV at h ⊢
    obtain ⟨a, xs, e, q, r⟩ := h
    exact ⟨a, xs, e, k.sqF q, DVs.kq k le sm ds xs r⟩
theorem DVs.kq (k : Kp H H') (le : N ≤ N') (sm : ∀ n, n < N → μ' n = μ n) : ∀ (ds : List D) (vs : List V), DVs K μ N H ds vs → DVs K μ' N' H' ds vs
  | [], vs, h => by unfold DVs at h ⊢; exact h
  | d :: ds, vs, h => by
    unfold DVs at h ⊢
    obtain ⟨v, r, e, h1, h2⟩ := h
    exact ⟨v, r, e, DV.kq k le sm d v h1, DVs.kq k le sm ds r h2⟩
end
theorem DV.kp (k : Kp H H') (d : D) (v : V) (h : DV K μ N H d v) : DV K μ N H' d v := DV.kq k (Nat.le_refl _) (fun _ _ => rfl) d v h
theorem DVs.kp (k : Kp H H') (ds : List D) (vs : List V) (h : DVs K μ N H ds vs) : DVs K μ N H' ds vs := DVs.kq k (Nat.le_refl _) (fun _ _ => rfl) ds vs h
theorem FV.mu (le : N ≤ N') (sm : ∀ n, n < N → μ' n = μ n) : ∀ {ps : List (Str × D)} {fs : List (Str × V)}, FV K μ N H ps fs → FV K μ' N' H ps fs
  | [], fs, h => h
  | p :: ps, fs, h => let ⟨v, r, e, h1, h2⟩ := h; ⟨v, r, e, DV.kq (Kp.refl _) le sm _ _ h1, FV.mu le sm h2⟩
theorem KVs.mu (le : N ≤ N') (sm : ∀ n, n < N → μ' n = μ n) : ∀ {ps : List (Key × D)} {fs : List (Key × V)}, KVs K μ N H ps fs → KVs K μ' N' H ps fs
  | [], fs, h => h
  | p :: ps, fs, h => let ⟨v, r, e, h1, h2⟩ := h; ⟨v, r, e, DV.kq (Kp.refl _) le sm _ _ h1, KVs.mu le sm h2⟩
theorem OV.mu {a : Addr} {o : MO} (le : N ≤ N') (sm : ∀ n, n < N → μ' n = μ n) (h : OV K μ N H a o) : OV K μ' N' H a o := by
  cases o with
  | lst ds => obtain ⟨xs, h1, h2⟩ := h; exact ⟨xs, h1, DVs.kq (Kp.refl _) le sm _ _ h2⟩
  | dic kvs => obtain ⟨xs, h1, h2⟩ := h; exact ⟨xs, h1, h2.mu le sm⟩
  | ins c fs => obtain ⟨dx, xs, h1, h2⟩ := h; exact ⟨dx, xs, h1, h2.mu le sm⟩
theorem FV.kp (k : Kp H H') : ∀ {ps : List (Str × D)} {fs : List (Str × V)}, FV K μ N H ps fs → FV K μ N H' ps fs
  | [], fs, h => h
  | p :: ps, fs, h => let ⟨v, r, e, h1, h2⟩ := h; ⟨v, r, e, DV.kp k _ _ h1, FV.kp k h2⟩
theorem KVs.kp (k : Kp H H') : ∀ {ps : List (Key × D)} {fs : List (Key × V)}, KVs K μ N H ps fs → KVs K μ N H' ps fs
  | [], fs, h => h
  | p :: ps, fs, h => let ⟨v, r, e, h1, h2⟩ := h; ⟨v, r, e, DV.kp k _ _ h1, KVs.kp k h2⟩
theorem OV.kp {a : Addr} {o : MO} (k : Kp H H') (e : ∀ u, H a = Option.some u → H' a = Option.some u) (h : OV K μ N H a o) : OV K μ N H' a o := by
  cases o with
  | lst ds => obtain ⟨xs, h1, h2⟩ := h; exact ⟨xs, e _ h1, DVs.kp k _ _ h2⟩
  | dic kvs => obtain ⟨xs, h1, h2⟩ := h; exact ⟨xs, e _ h1, h2.kp k⟩
  | ins c fs => obtain ⟨dx, xs, h1, h2⟩ := h; exact ⟨dx, xs, e _ h1, h2.kp k⟩
theorem EV.kp (k : Kp H H') {ρ : En} {σ : L2.St} (h : EV K μ N H ρ σ) : EV K μ N H' ρ σ :=
  ⟨h.len, fun i d e => let ⟨v, e1, e2⟩ := h.at_ i d e; ⟨v, e1, DV.kp k _ _ e2⟩⟩
/-- a thing that the memory does not hold is written -/
theorem Rel.poke {M : Mem} {p : Addr} {o : HO} (r : Rel K μ M H) (k : Kp H (upd H p o)) (hp : ∀ n, n < M.length → μ n ≠ p) : Rel K μ M (upd H p o) :=
  ⟨fun n o' e => OV.kp k (fun u q => by rw [upd_ne (hp n (List.getElem?_eq_some_iff.mp e).1)]; exact q) (r.obj n o' e), r.inj⟩
theorem Lift.poke {p : Addr} {o : HO} (l : Lift μ N H μ' N' H') (h : H p = none) (k : Kp H' (upd H' p o)) : Lift μ N H μ' N' (upd H' p o) :=
  ⟨l.le, l.same, l.kp.trans k, fun b u e hn => by rw [upd_ne (ne_of_none e h)]; exact l.fr b u e hn, l.new, fun b e => l.dom b (dom_upd e)⟩
/-- a tracked thing outside the memory stays outside -/
theorem Lift.out {p : Addr} {u : HO} (l : Lift μ N H μ' N' H') (h : H p = some u) (hp : ∀ n, n < N → μ n ≠ p) : ∀ n, n < N' → μ' n ≠ p := fun n hn => by
  by_cases q : n < N
  · rw [l.same n q]; exact hp n q
  · intro e
    have := l.new n (Nat.le_of_not_lt q) hn
    rw [e, h] at this
    cases this
/-- a list outside the memory becomes its last object -/
theorem Rel.adopt {M : Mem} {p : Addr} {ds : List D} {vs : List V} (r : Rel K μ M H) (hp : ∀ n, n < M.length → μ n ≠ p) (h : H p = Option.some (.lst vs)) (q : DVs K μ M.length H ds vs) : Rel K (ext μ M.length p) (M ++ [.lst ds]) H := by
  have le : M.length ≤ (M ++ [MO.lst ds]).length := by simp
  have sm : ∀ n, n < M.length → ext μ M.length p n = μ n := fun n hn => if_neg (Nat.ne_of_lt hn)
  have e2 : ext μ M.length p M.length = p := if_pos rfl
  refine ⟨fun n o' e => ?_, fun i j hi hj e => ?_⟩
  · by_cases hn : n < M.length
    · rw [List.getElem?_append_left hn] at e
      rw [sm n hn]
      exact OV.mu le sm (r.obj n o' e)
    · have hl := (List.getElem?_eq_some_iff.mp e).1
      rw [List.length_append, List.length_singleton] at hl
      have hn' : n = M.length := by omega
      subst hn'
      rw [List.getElem?_append_right (Nat.le_refl _), Nat.sub_self] at e
      have e1 := Option.some.inj e
      subst e1
      rw [e2]; exact ⟨vs, h, DVs.kq (Kp.refl _) le sm _ _ q⟩
  · rw [List.length_append, List.length_singleton] at hi hj
    unfold ext at e
    by_cases h1 : i = M.length
    · by_cases h2 : j = M.length
      · omega
      · rw [if_pos h1, if_neg h2] at e
        exact absurd e.symm (hp j (by omega))
    · by_cases h2 : j = M.length
      · rw [if_neg h1, if_pos h2] at e
        exact absurd e (hp i (by omega))
      · rw [if_neg h1, if_neg h2] at e
        exact r.inj i j (by omega) (by omega) e
theorem Lift.adopt {M' : Mem} {p : Addr} {m : MO} (l : Lift μ N H μ' M'.length H') (h : H p = none) : Lift μ N H (ext μ' M'.length p) (M' ++ [m]).length H' := by
  have e2 : ext μ' M'.length p M'.length = p := if_pos rfl
  have sm : ∀ n, n < M'.length → ext μ' M'.length p n = μ' n := fun n hn => if_neg (Nat.ne_of_lt hn)
  refine ⟨Nat.le_trans l.le (by simp), fun n hn => by rw [sm n (Nat.lt_of_lt_of_le hn l.le)]; exact l.same n hn, l.kp, l.fr, fun n h1 h2 => ?_, l.dom⟩
  rw [List.length_append, List.length_singleton] at h2
  by_cases hn : n < M'.length
  · rw [sm n hn]; exact l.new n h1 hn
  · have : n = M'.length := by omega
    rw [this, e2]; exact h
end
def wipeE (ρ : En) : List Nat → En
  | [] => ρ
  | v :: vs => (wipeE ρ vs).set v none
theorem EV.unset {K : PySem.W.Frag} {μ : Nat → Addr} {N : Nat} {H : Hp} {ρ : En} {σ : L2.St} (h : EV K μ N H ρ σ) (i : Nat) : EV K μ N H (ρ.set i none) (σ.set i none) := by
  refine ⟨by rw [List.length_set, List.length_set]; exact h.len, fun j e hj => ?_⟩
  by_cases hij : i = j
  · subst hij
    have hl : i < ρ.length := by
      have := (List.getElem?_eq_some_iff.mp hj).1
      simpa using this
    rw [List.getElem?_set_self hl] at hj
    cases hj
  · rw [List.getElem?_set_ne hij] at hj
    obtain ⟨w, e1, e2⟩ := h.at_ j e hj
    exact ⟨w, by rw [List.getElem?_set_ne hij]; exact e1, e2⟩
theorem EV.wipe {K : PySem.W.Frag} {μ : Nat → Addr} {N : Nat} {H : Hp} {ρ : En} {σ : L2.St} (h : EV K μ N H ρ σ) : ∀ vs : List Nat, EV K μ N H (wipeE ρ vs) (wipe σ vs)
  | [] => h
  | v :: vs => (h.wipe vs).unset v
theorem wipe_get (σ : L2.St) (j : Nat) : ∀ vs : List Nat, (wipe σ vs)[j]? = if j ∈ vs then (σ[j]?).map (fun _ => none) else σ[j]?
  | [] => by simp [wipe]
  | v :: vs => by
    have ih := wipe_get σ j vs
    unfold wipe
    by_cases h : v = j
    · subst h
      by_cases hl : v < (wipe σ vs).length
      · rw [List.getElem?_set_self hl]
        rw [wipe_length] at hl
        simp [hl]
      · rw [List.getElem?_eq_none (by simpa using hl)]
        rw [wipe_length] at hl
        have : σ[v]? = none := List.getElem?_eq_none (Nat.le_of_not_lt hl)
        simp [this]
    · rw [List.getElem?_set_ne h, ih]
      have : j ≠ v := fun e => h e.symm
      simp [this]
theorem wipe_set {σ τ : L2.St} {vs : List Nat} {i : Nat} {o : Option V} (h : wipe τ vs = wipe σ vs) (hi : i ∈ vs) : wipe (τ.set i o) vs = wipe σ vs := by
  rw [← h]
  refine List.ext_getElem? fun j => ?_
  rw [wipe_get, wipe_get]
  by_cases hj : j ∈ vs
  · rw [if_pos hj, if_pos hj]
    by_cases hij : i = j
    · subst hij
      by_cases hl : i < τ.length
      · rw [List.getElem?_set_self hl]; simp [hl]
      · rw [List.getElem?_eq_none (by simpa using hl), List.getElem?_eq_none (by simpa using hl)]
    · rw [List.getElem?_set_ne hij]
  · rw [if_neg hj, if_neg hj, List.getElem?_set_ne (fun e : i = j => hj (by rw [← e]; exact hi))]
theorem wipe_wipe (σ : L2.St) (vs : List Nat) : wipe (wipe σ vs) vs = wipe σ vs := by
  refine List.ext_getElem? fun j => ?_
  rw [wipe_get, wipe_get]
  by_cases hj : j ∈ vs
  · rw [if_pos hj, if_pos hj]; cases σ[j]? <;> rfl
  · rw [if_neg hj, if_neg hj]
/-- a target of the block's own names -/
structure OwnG (K : PySem.W.Frag) (g : TG) (gg : FG) (vs : List Nat) : Prop where
  go : ∀ (μ : Nat → Addr) (M : Mem) (H : Hp) (ρ : En) (σ τ : L2.St) (d : D) (x : V) (ρ1 : En) (M1 : Mem) (Q : L2.St → Hp → Prop), Rel K μ M H → EV K μ M.length H ρ τ → wipe τ vs = wipe σ vs → DV K μ M.length H d x → gg d ρ M = .go .nx ρ1 M1 →
    (M1 = M → ∀ σ2, EV K μ M.length H ρ1 σ2 → wipe σ2 vs = wipe σ vs → Q σ2 H) → g x τ H Q
structure OwnGs (K : PySem.W.Frag) (g : TGs) (gg : List D → FStm) (vs : List Nat) : Prop where
  go : ∀ (μ : Nat → Addr) (M : Mem) (H : Hp) (ρ : En) (σ τ : L2.St) (ds : List D) (xs : List V) (ρ1 : En) (M1 : Mem) (Q : L2.St → Hp → Prop), Rel K μ M H → EV K μ M.length H ρ τ → wipe τ vs = wipe σ vs → DVs K μ M.length H ds xs → gg ds ρ M = .go .nx ρ1 M1 →
    (M1 = M → ∀ σ2, EV K μ M.length H ρ1 σ2 → wipe σ2 vs = wipe σ vs → Q σ2 H) → g xs τ H Q
theorem own_n {K : PySem.W.Frag} {i : Nat} {vs : List Nat} (hi : i ∈ vs) : OwnG K (gName i) (gN i) vs :=
  ⟨fun μ M H ρ σ τ d x ρ1 M1 Q r e w q h k => by cases h; exact k rfl _ (e.set q i) (wipe_set w hi)⟩
theorem own_nil {K : PySem.W.Frag} {vs : List Nat} : OwnGs K gNil gsN vs :=
  ⟨fun μ M H ρ σ τ ds xs ρ1 M1 Q r e w q h k => by
    cases ds with
    | nil => cases h; exact ⟨q.inv_nil, k rfl _ e w⟩
    | cons d ds => cases h⟩
theorem own_cons {K : PySem.W.Frag} {vs : List Nat} {g : TG} {gs : TGs} {gg : FG} {ggs : List D → FStm} (h1 : OwnG K g gg vs) (h2 : OwnGs K gs ggs vs) : OwnGs K (gCons g gs) (gsC gg ggs) vs :=
  ⟨fun μ M H ρ σ τ ds xs ρ1 M1 Q r e w q h k => by
    cases ds with
    | nil => cases h
    | cons d ds =>
      obtain ⟨v, t, ev, q1, q2⟩ := q.inv_cons
      refine ⟨v, t, ev, ?_⟩
      unfold gsC at h
      dsimp only at h
      cases hg : gg d ρ M with
      | go f ρ2 M2 =>
        rw [hg] at h
        cases f with
        | nx => exact h1.go μ M H ρ σ τ d v ρ2 M2 _ r e w q1 hg fun em σ2 e2 w2 => by subst em; exact h2.go μ M2 H ρ2 σ σ2 ds t ρ1 M1 Q r e2 w2 q2 h k
        | _ => cases h
      | _ => rw [hg] at h; cases h⟩
theorem own_tup {K : PySem.W.Frag} {vs : List Nat} {n : Nat} {gs : TGs} {ggs : List D → FStm} (h2 : OwnGs K gs ggs vs) : OwnG K (L2.gTup K n gs) (gTp n ggs) vs :=
  ⟨fun μ M H ρ σ τ d x ρ1 M1 Q r e w q h k => by
    unfold gTp at h
    split at h
    · split at h
      · rename_i ds hl
        obtain ⟨p, xs, ev, sq, dq⟩ := tup_dv q
        exact ⟨p, xs, ev, sq, by rw [dq.length]; exact hl, h2.go μ M H ρ σ τ ds xs ρ1 M1 Q r e w dq h k⟩
      · cases h
    · cases h⟩
/-- the turns of a comprehension over items, its names wiped in ρ -/
def lcGo (gg : FG) (tt : FT) (te : FE) (ρ : En) : List D → List D → Mem → R (List D)
  | [], acc, M => .ok acc M
  | x :: xs, acc, M => match gg x ρ M with
    | .go .nx ρ1 M1 => (match tt ρ1 M1 with
      | .ok true M2 => (match te ρ1 M2 with
        | .ok y M3 => if acc.length < sizeLine then lcGo gg tt te ρ xs (acc ++ [y]) M3 else .no
        | _ => .no)
      | .ok false M2 => lcGo gg tt te ρ xs acc M2
      | _ => .no)
    | _ => .no
/-- over the n-th list of the memory, which stays -/
def lcW (gg : FG) (tt : FT) (te : FE) (ρ : En) (w : Wk) (M : Mem) : R (List D) := match w with
  | .items ds => lcGo gg tt te ρ ds [] M
  | .obj _ => .no
def eLcV (vs : List Nat) (fw : En → Mem → R Wk) (gg : FG) (tt : FT) (te : FE) : FE := fun ρ M => (fw ρ M).bind fun w M1 => (lcW gg tt te (wipeE ρ vs) w M1).bind fun acc M2 => .ok (.lst acc) M2
def eLcN (vs : List Nat) (fw : En → Mem → R Wk) (gg : FG) (tt : FT) (te : FE) : FE := fun ρ M => (fw ρ M).bind fun w M1 => (lcW gg tt te (wipeE ρ vs) w M1).bind fun acc M2 => .ok (.ref M2.length) (M2 ++ [.lst acc])
def tYesM : FT := fun _ M => .ok true M
abbrev WF : WX := fun _ _ _ _ => False
def MTs (X : Cx) (W : WX) (ifs : List Expr) (f : FT) : Prop := PTs X ifs (tM X.K BV W f)
theorem PTs.weak {X : Cx} {ifs : List Expr} {t t' : TT} (h : PTs X ifs t) (w : ∀ σ H Q, t' σ H Q → t σ H Q) : PTs X ifs t' := ⟨fun pins s σ H Q I hw => h.run pins s σ H Q I (w σ H Q hw)⟩
theorem mts_nil {X : Cx} {W : WX} : MTs X W [] tYesM := PTs.weak pts_nil fun σ H Q ⟨μ, M, ρ, r, e, a⟩ => a μ H true (Lift.refl ..) r rfl
theorem mts_one {X : Cx} {W : WX} {c : Expr} {f : FT} (h : MT X W c f) : MTs X W [c] f := pts_one h
section
variable {K : PySem.W.Frag} {gg : FG} {tt : FT} {te : FE} {ρw : En} {g : TG} {vs : List Nat}
/-- what the turns are to reach, dl the new list -/
def AnsD (K : PySem.W.Frag) (μ : Nat → Addr) (N : Nat) (H : Hp) (dl : Addr) (r : R (List D)) (Q : Hp → Prop) : Prop := match r with
  | .ok acc M' => ∀ μ' H' accV, Lift μ N H μ' M'.length H' → Rel K μ' M' H' → (∀ n, n < M'.length → μ' n ≠ dl) → H' dl = some (.lst accV) → DVs K μ' M'.length H' acc accV → Q H'
  | _ => False
theorem lc_turns (own : OwnG K g gg vs) {μ : Nat → Addr} {M : Mem} {H1 : Hp} {dl : Addr} {σ : L2.St} {Q : Hp → Prop} {ds : List D} {J : It} (hD : H1 dl = none) (r : Rel K μ M H1) (e : EV K μ M.length H1 ρw (wipe σ vs)) (hw : WkR K μ M.length H1 (.items ds) J)
    (a : AnsD K μ M.length H1 dl (lcGo gg tt te ρw ds [] M) Q) :
    ∃ W : Nat → Nat → Hp → Prop, (∃ m, W 0 m (upd H1 dl (.lst []))) ∧ ∀ i m H, W i m H →
      (J.stop i H ∧ Q H) ∨ (J.go i H ∧ ∃ Nx : Hp → Prop, (∀ H', Nx H' → ∃ m', m' < m ∧ W (i + 1) m' H') ∧ ∀ x H', J.yld i H x H' → g x (wipe σ vs) H' fun σ2 H2 => wipe σ2 vs = wipe σ vs ∧ tM K BV WF tt σ2 H2 fun b H3 =>
        if b = true then tM K (DV K) WF te σ2 H3 fun y H4 => ∃ acc, H4 dl = some (.lst acc) ∧ acc.length < sizeLine ∧ Nx (upd H4 dl (.lst (acc ++ [y]))) else Nx H3) := by
  let I : List D → Mem → Hp → List D → Prop := fun todo M' H' acc => ∃ μ' accV, Lift μ M.length H1 μ' M'.length H' ∧ Rel K μ' M' H' ∧ (∀ n, n < M'.length → μ' n ≠ dl) ∧ H' dl = some (.lst accV) ∧ DVs K μ' M'.length H' acc accV ∧ AnsD K μ M.length H1 dl (lcGo gg tt te ρw todo acc M') Q
  refine ⟨fun i m H' => m = ds.length - i ∧ i ≤ ds.length ∧ ∃ M' acc, I (ds.drop i) M' H' acc, ⟨_, rfl, Nat.zero_le _, M, [], μ, [], Lift.fresh hD, r.fresh hD, fun n hn => r.ne hn hD, upd_same, DVs.nil, a⟩, ?_⟩
  rintro i m' H' ⟨rfl, hi, M', acc, μ', accV, l, r', ho, hd, dq, a'⟩
  obtain ⟨h1, h2⟩ := hw μ' M'.length H' l
  by_cases hlt : i < ds.length
  · have hdi : ds[i]? = some ds[i] := by simp [hlt]
    obtain ⟨h3, h4⟩ := h2 i ds[i] hdi
    refine .inr ⟨h3, fun H2 => i + 1 ≤ ds.length ∧ ∃ M' acc, I (ds.drop (i + 1)) M' H2 acc, fun H2 z => ⟨_, by omega, rfl, z.1, z.2⟩, fun x H2 y => ?_⟩
    obtain ⟨r2, l2, d2⟩ := h4 M' x H2 r' rfl y
    rw [List.drop_eq_getElem_cons hlt] at a'
    have hd2 := l2.fr dl _ hd ho
    have l3 := l.trans l2
    unfold lcGo at a'
    cases hg : gg ds[i] ρw M' with
    | go f ρ1 M1 =>
      rw [hg] at a'
      cases f with
      | nx =>
        refine own.go μ' M' H2 ρw σ (wipe σ vs) ds[i] x ρ1 M1 _ r2 (e.lift l3) (wipe_wipe σ vs) d2 hg fun em σ2 e2 w2 => ⟨w2, ?_⟩
        subst em
        dsimp only at a'
        refine ⟨μ', M1, ρ1, r2, e2, ?_⟩
        cases ht : tt ρ1 M1 with
        | no => rw [ht] at a'; exact a'.elim
        | ex x M2 => rw [ht] at a'; exact a'.elim
        | ok b M2 =>
          rw [ht] at a'
          rintro μ3 H3 b' l4 r3 (rfl : b = b')
          have hd3 := l4.fr dl _ hd2 ho
          have ho3 := l4.out hd2 ho |> fun z => z
          have dq3 := (dq.lift l2).lift l4
          cases b with
          | false =>
            rw [if_neg (by decide)]
            exact ⟨hlt, M2, acc, μ3, accV, l3.trans l4, r3, ho3, hd3, dq3, a'⟩
          | true =>
            rw [if_pos rfl]
            dsimp only at a'
            refine ⟨μ3, M2, ρ1, r3, e2.lift l4, ?_⟩
            cases hy : te ρ1 M2 with
            | no => rw [hy] at a'; exact a'.elim
            | ex x M3 => rw [hy] at a'; exact a'.elim
            | ok yd M3 =>
              rw [hy] at a'
              dsimp only at a'
              intro μ4 H4 yv l5 r4 q4
              have hd4 := l5.fr dl _ hd3 ho3
              have ho4 := l5.out hd3 ho3
              have dq4 := dq3.lift l5
              by_cases hl : acc.length < sizeLine
              · rw [if_pos hl] at a'
                refine ⟨accV, hd4, by rw [dq4.length]; exact hl, hlt, M3, acc ++ [yd], μ4, accV ++ [yv], ?_, ?_, ho4, upd_same, ?_, a'⟩
                · exact ((l3.trans l4).trans l5).poke hD (Kp.lst hd4)
                · exact r4.poke (Kp.lst hd4) ho4
                · exact DVs.kp (Kp.lst hd4) _ _ (dq4.append (DVs.cons q4 DVs.nil))
              · rw [if_neg hl] at a'; exact a'.elim
      | _ => exact a'.elim
    | _ => rw [hg] at a'; exact a'.elim
  · have e2 : i = ds.length := by omega
    subst e2
    rw [List.drop_length] at a'
    exact .inl ⟨h1, a' μ' H' accV l r' ho hd dq⟩
end
theorem lcGo_ne {gg : FG} {tt : FT} {te : FE} {ρ : En} : ∀ {ds acc : List D} {M : Mem} {x : Exn} {M' : Mem}, lcGo gg tt te ρ ds acc M = .ex x M' → False
  | [], acc, M, x, M', h => by cases h
  | d :: ds, acc, M, x, M', h => by
    unfold lcGo at h
    split at h
    · split at h
      · split at h
        · split at h
          · exact lcGo_ne h
          · cases h
        · cases h
      · exact lcGo_ne h
      · cases h
    · cases h
section
variable {X : Cx} {W : WX} {elt tg iter : Expr} {ifs : List Expr} {scope : Scope} {own : List (Str × Nat)} {pos : Pos} {fw : En → Mem → R Wk} {gg : FG} {tt : FT} {te : FE} {g : TG}
/-- the comprehension's turns under any last word -/
theorem lc_full {σ : L2.St} {H : Hp} {Q : VK} {fin : List D → Mem → R D} (hok : OwnG X.K g gg (own.map (·.2))) (h : tM X.K (DV X.K) W (fun ρ M => (fw ρ M).bind fun w M1 => (lcW gg tt te (wipeE ρ (own.map (·.2))) w M1).bind fin) σ H Q)
    (hfin : ∀ (μ : Nat → Addr) (M : Mem) (H1 : Hp) (dl : Addr) (acc : List D) (M' : Mem) (μ' : Nat → Addr) (H' : Hp) (accV : List V) (E : W0), H1 dl = none → Ans X.K (DV X.K) E μ M.length H1 (fin acc M') Q → Lift μ M.length H1 μ' M'.length H' → Rel X.K μ' M' H' → (∀ n, n < M'.length → μ' n ≠ dl) → H' dl = some (.lst accV) → DVs X.K μ' M'.length H' acc accV → Q' (.ref dl) H') :
    tLc (tM X.K (WkR X.K) W fw) g (tM X.K BV WF tt) (tM X.K (DV X.K) WF te) (own.map (·.2)) σ H Q' := by
  refine tM.mono (fun J H1 ⟨μ, M, ρ, w, r, e, q, a⟩ => ?_) (tM.seq (rel := WkR X.K) h)
  intro dl hdl
  cases w with
  | obj n => exact a.elim
  | items ds =>
    refine lc_turns (Q := Q' (.ref dl)) hok hdl r (e.wipe _) q ?_
    have a : Ans X.K (DV X.K) (fun c d H' => W c d σ H') μ M.length H1 ((lcGo gg tt te (wipeE ρ (own.map (·.2))) ds [] M).bind fin) Q := a
    unfold AnsD
    cases hr : lcGo gg tt te (wipeE ρ (own.map (·.2))) ds [] M with
    | no => rw [hr] at a; exact a
    | ex x M2 => exact (lcGo_ne hr).elim
    | ok acc M2 =>
      rw [hr] at a
      exact fun μ' H' accV l r' ho hd dq => hfin μ M H1 dl acc M2 μ' H' accV _ hdl a l r' ho hd dq
/-- [elt for tg in iter if ..] whose list nobody writes; and as a list of the memory -/
theorem me_lcV (hc : X.calm = true) (hN : X.N.Nodup) (ok : BlkOk X.N X.env.scope scope own) (hok : OwnG X.K g gg (own.map (·.2))) (hi : MI X W tg iter fw)
    (hg : ∀ (s : Shared) (H : Hp) (C : Addr) (cl : List (Str × Addr)) (fp : List Addr), PG (X.blk s H scope (compEnvC scope cl C X.env) fp) tg g) (ht : ∀ (s : Shared) (H : Hp) (C : Addr) (cl : List (Str × Addr)) (fp : List Addr), MTs (X.blk s H scope (compEnvC scope cl C X.env) fp) WF ifs tt)
    (he : ∀ (s : Shared) (H : Hp) (C : Addr) (cl : List (Str × Addr)) (fp : List Addr), ME (X.blk s H scope (compEnvC scope cl C X.env) fp) WF elt te) (hs : ∀ x, foldedSetIterable iter X.env x = pure x := by intro _; rfl) :
    ME X W (.ListComp elt [⟨tg, iter, ifs, 0⟩] scope pos) (eLcV (own.map (·.2)) fw gg tt te) := by
  refine PE.weak (PE.lock (pe_lc (tt := tM X.K BV WF tt) (te := tM X.K (DV X.K) WF te) hc hN hi ok hg ht he hs)) fun σ H Q h => ?_
  refine lc_full (Q := Q) hok h fun μ M H1 dl acc M' μ' H' accV E hdl a l r' ho hd dq => ⟨dl, accV, rfl, hd, fun o => ?_⟩
  refine a μ' _ _ (l.poke hdl (Kp.lst hd)) (r'.poke (Kp.lst hd) ho) ?_
  unfold DV
  exact ⟨dl, accV, rfl, .inl ⟨o, upd_same⟩, DVs.kp (Kp.lst hd) _ _ dq⟩
theorem me_lcN (hc : X.calm = true) (hN : X.N.Nodup) (ok : BlkOk X.N X.env.scope scope own) (hok : OwnG X.K g gg (own.map (·.2))) (hi : MI X W tg iter fw)
    (hg : ∀ (s : Shared) (H : Hp) (C : Addr) (cl : List (Str × Addr)) (fp : List Addr), PG (X.blk s H scope (compEnvC scope cl C X.env) fp) tg g) (ht : ∀ (s : Shared) (H : Hp) (C : Addr) (cl : List (Str × Addr)) (fp : List Addr), MTs (X.blk s H scope (compEnvC scope cl C X.env) fp) WF ifs tt)
    (he : ∀ (s : Shared) (H : Hp) (C : Addr) (cl : List (Str × Addr)) (fp : List Addr), ME (X.blk s H scope (compEnvC scope cl C X.env) fp) WF elt te) (hs : ∀ x, foldedSetIterable iter X.env x = pure x := by intro _; rfl) :
    ME X W (.ListComp elt [⟨tg, iter, ifs, 0⟩] scope pos) (eLcN (own.map (·.2)) fw gg tt te) := by
  refine PE.weak (pe_lc (tt := tM X.K BV WF tt) (te := tM X.K (DV X.K) WF te) hc hN hi ok hg ht he hs) fun σ H Q h => ?_
  refine lc_full (Q := Q) hok h fun μ M H1 dl acc M' μ' H' accV E hdl a l r' ho hd dq => ?_
  refine a (ext μ' M'.length dl) H' _ (l.adopt hdl) (r'.adopt ho hd dq) ?_
  unfold DV
  exact ⟨by simp, congrArg V.ref (if_pos rfl : ext μ' M'.length dl M'.length = dl).symm⟩
end
end Br
set_option Elab.async false
set_option linter.all false
set_option maxRecDepth 100000
set_option maxHeartbeats 4000000
namespace Br
open PySem PySem.Spec PyProof.Rows L2
/-! ### isinstance -/
def tyD (M : Mem) : D → Option String
  | .non => some "NoneType"
  | .bl _ => some "bool"
  | .int _ => some "int"
  | .str _ => some "str"
  | .tup _ => some "tuple"
  | .lst _ => some "list"
  | .ref n => (match M[n]? with
    | some (.lst _) => some "list"
    | some (.dic _) => some "dict"
    | _ => none)
  | _ => none
def isiB (t T : String) : Bool := decide (t = T) || (decide (t = "bool") && decide (T = "int"))
def tyNames : List String := ["bool", "int", "str", "tuple", "list", "dict"]
def gIsi : FL := fun ds M => match ds with
  | [d, .ty T] => (match tyD M d with
    | some t => if T ∈ tyNames then .ok (.bl (isiB t T)) M else .no
    | none => .no)
  | _ => .no
theorem kit_ty (K : PySem.W.Frag) : ∀ t ∈ "NoneType" :: tyNames, ∀ T ∈ tyNames, PySem.W.kitOne K (.type t) (.type T) = some (isiB t T) := by
  intro t ht T hT
  unfold tyNames at ht hT
  simp only [List.mem_cons, List.not_mem_nil, or_false] at ht hT
  rcases ht with rfl | rfl | rfl | rfl | rfl | rfl | rfl <;> rcases hT with rfl | rfl | rfl | rfl | rfl | rfl <;> rfl
theorem tyD_ok {K : PySem.W.Frag} {μ : Nat → Addr} {M : Mem} {H : Hp} {d : D} {v : V} {t : String} (r : Rel K μ M H) (q : DV K μ M.length H d v) (h : tyD M d = some t) : TyX K H v (.type t) ∧ t ∈ "NoneType" :: tyNames := by
  cases d with
  | non => cases h; rw [non_dv q]; exact ⟨.base .non, by decide⟩
  | bl b => cases h; rw [bl_dv q]; exact ⟨.base (.bl _), by decide⟩
  | int b => cases h; rw [int_dv q]; exact ⟨.base (.int _), by decide⟩
  | str b => cases h; rw [str_dv q]; exact ⟨.base (.str _), by decide⟩
  | tup ds =>
    cases h
    obtain ⟨a, xs, e, s, _⟩ := tup_dv q
    rw [e]
    refine ⟨?_, by decide⟩
    rcases s with (s | ⟨o, s⟩) | ⟨o, its, n, h1, h2, h3, _⟩
    · exact .base (.tup s)
    · exact .fTuple s
    · exact .kTuple h1 h2
  | lst ds =>
    cases h
    obtain ⟨a, xs, e, s, _⟩ := lst_dv q
    rw [e]
    refine ⟨?_, by decide⟩
    rcases s with ⟨o, s⟩ | ⟨o, its, n, h1, h2, h3, _⟩
    · exact .base (.frz s)
    · exact .kList h1 h2
  | ref n =>
    obtain ⟨hn, e⟩ := ref_dv q
    rw [e]
    unfold tyD at h
    dsimp only at h
    split at h
    · rename_i hx
      cases h
      obtain ⟨xs, h1, _⟩ := r.obj n _ hx
      exact ⟨.base (.lst h1), by decide⟩
    · rename_i hx
      cases h
      obtain ⟨xs, h1, _⟩ := r.obj n _ hx
      exact ⟨.base (.dK h1), by decide⟩
    · cases h
  | gl x => cases h
  | ty x => cases h
theorem ty_dv {K : PySem.W.Frag} {μ : Nat → Addr} {N : Nat} {H : Hp} {i : String} {v : V} (h : DV K μ N H (.ty i) v) : v = .ty i := by unfold DV at h; exact h
section
variable {X : Cx}
theorem cm_isi : CallM X (.builtin "isinstance") gIsi := by
  intro W pins s σ H xs us Q I rv ⟨μ, M, as, r, q, an⟩
  unfold gIsi at an
  split at an
  · rename_i d T
    split at an
    · rename_i t ht
      split at an
      · rename_i hT
        obtain ⟨v, r', e, q1, q2⟩ := q.inv_cons
        obtain ⟨v2, r2, e2, q3, q4⟩ := q2.inv_cons
        rw [e, e2, q4.inv_nil, ty_dv q3] at rv
        obtain ⟨h1, h2⟩ := tyD_ok r q1 ht
        exact call_isi pins s σ H _ us Q I rv ⟨v, .ty T, _, _, _, rfl, .ty T, h1, kit_ty X.K t h2 T hT, ans_pure r dv_bl an⟩
      · exact an.elim
    · exact an.elim
  · exact an.elim
/-! ### all, any of booleans -/
def blsOf : List D → Option (List Bool)
  | [] => some []
  | .bl b :: r => (blsOf r).map (b :: ·)
  | _ => none
theorem blsOf_eq : ∀ {ds : List D} {bs : List Bool}, blsOf ds = some bs → ds = bs.map D.bl
  | [], bs, h => by cases h; rfl
  | .bl b :: r, bs, h => by
    unfold blsOf at h
    cases e : blsOf r with
    | none => rw [e] at h; cases h
    | some cs => rw [e] at h; cases h; rw [blsOf_eq e]; rfl
  | .non :: r, bs, h => by cases h
  | .int _ :: r, bs, h => by cases h
  | .str _ :: r, bs, h => by cases h
  | .tup _ :: r, bs, h => by cases h
  | .lst _ :: r, bs, h => by cases h
  | .ref _ :: r, bs, h => by cases h
  | .gl _ :: r, bs, h => by cases h
  | .ty _ :: r, bs, h => by cases h
def gAllB (f : List Bool → Bool) : FL := fun ds M => match ds with
  | [d] => (match (seqL M d).bind blsOf with
    | some bs => .ok (.bl (f bs)) M
    | none => .no)
  | _ => .no
def gAll : FL := gAllB fun bs => bs.all id
def gAny : FL := gAllB fun bs => bs.any id
theorem allB_ok {K : PySem.W.Frag} {μ : Nat → Addr} {M : Mem} {H : Hp} {d : D} {v : V} {bs : List Bool} (r : Rel K μ M H) (q : DV K μ M.length H d v) (h : (seqL M d).bind blsOf = some bs) : ∃ a, v = .ref a ∧ SqL K H a (bs.map V.bl) := by
  cases e : seqL M d with
  | none => rw [e] at h; cases h
  | some ds =>
    rw [e] at h
    obtain ⟨a, xs, ev, s, dq⟩ := seqL_ok r q e
    have e2 := blsOf_eq (show blsOf ds = some bs from h)
    subst e2
    exact ⟨a, ev, by rw [← dq.bls]; exact s⟩
theorem cm_all (hc : X.calm = true) : CallM X (.builtin "all") gAll := by
  intro W pins s σ H xs us Q I rv ⟨μ, M, as, r, q, an⟩
  unfold gAll gAllB at an
  split at an
  · split at an
    · rename_i bs hb
      obtain ⟨v, r', e, q1, q2⟩ := q.inv_cons
      obtain ⟨a, ev, sq⟩ := allB_ok r q1 hb
      rw [e, q2.inv_nil, ev] at rv
      exact cr_all hc pins s σ H _ us Q I rv ⟨a, bs, rfl, sq, ans_pure r dv_bl an⟩
    · exact an.elim
  · exact an.elim
theorem cm_any (hc : X.calm = true) : CallM X (.builtin "any") gAny := by
  intro W pins s σ H xs us Q I rv ⟨μ, M, as, r, q, an⟩
  unfold gAny gAllB at an
  split at an
  · split at an
    · rename_i bs hb
      obtain ⟨v, r', e, q1, q2⟩ := q.inv_cons
      obtain ⟨a, ev, sq⟩ := allB_ok r q1 hb
      rw [e, q2.inv_nil, ev] at rv
      exact cr_any hc pins s σ H _ us Q I rv ⟨a, bs, rfl, sq, ans_pure r dv_bl an⟩
    · exact an.elim
  · exact an.elim
/-! ### str(int), list(..), tuple(..) -/
def gStr : FL := fun ds M => match ds with
  | [.int i] => if i.natAbs.log2 < 1920 then .ok (.str (toString i : String)) M else .no
  | [.str z] => .ok (.str z) M
  | _ => .no
def gTupOf : FL := fun ds M => match ds with
  | [.tup xs] => .ok (.tup xs) M
  | [d] => (match seqL M d with
    | some xs => .ok (.tup xs) M
    | none => .no)
  | _ => .no
theorem cm_tupOf : CallM X (.type "tuple") gTupOf := by
  intro W pins s σ H xs us Q I rv ⟨μ, M, as, r, q, an⟩
  unfold gTupOf at an
  split at an
  · rename_i ds
    obtain ⟨v, r', e, q1, q2⟩ := q.inv_cons
    obtain ⟨a, xs, ev, sq, dq⟩ := tup_dv q1
    rw [e, q2.inv_nil, ev] at rv
    exact call_tuple_of pins s σ H _ us Q I rv ⟨a, xs, rfl, .inr ⟨sq, ans_pure r (dv_tup sq dq) an⟩⟩
  · split at an
    · rename_i ds hd
      obtain ⟨v, r', e, q1, q2⟩ := q.inv_cons
      obtain ⟨a, xs, ev, sq, dq⟩ := seqL_ok r q1 hd
      rw [e, q2.inv_nil, ev] at rv
      refine call_tuple_of pins s σ H _ us Q I rv ⟨a, xs, rfl, .inl ⟨sq, fun l hl => ?_⟩⟩
      exact an μ _ _ (Lift.fresh hl) (r.fresh hl) (dv_tup (SqT.of upd_same) (dq.lift (Lift.fresh hl)))
    · exact an.elim
  · exact an.elim
/-- list(x) as a list of the memory -/
def gLstOf : FL := fun ds M => match ds with
  | [d] => (match seqA M d with
    | some xs => .ok (.ref M.length) (M ++ [.lst xs])
    | none => .no)
  | _ => .no
theorem cm_lstOf : CallM X (.type "list") gLstOf := by
  intro W pins s σ H xs us Q I rv ⟨μ, M, as, r, q, an⟩
  unfold gLstOf at an
  split at an
  · split at an
    · rename_i ds hd
      obtain ⟨v, r', e, q1, q2⟩ := q.inv_cons
      obtain ⟨a, xs, ev, sq, dq⟩ := seqA_ok r q1 hd
      rw [e, q2.inv_nil, ev] at rv
      exact call_list_of pins s σ H _ us Q I rv ⟨a, xs, rfl, sq, fun l hl => ans_new r dq an l hl⟩
    · exact an.elim
  · exact an.elim
/-! ### is None -/
def gIsN (b : Bool) : F2 := fun x y M => match y with
  | .non => (match x with
    | .non => .ok (.bl b) M
    | _ => .ok (.bl (!b)) M)
  | _ => .no
theorem om_isN : OpM X (compareOp .Is) (gIsN true) := by
  intro W pins s σ H x y v u Q I rx ry ⟨μ, M, a, b, r, qa, qb, an⟩
  unfold gIsN at an
  split at an
  · have hy := non_dv qb
    subst hy
    refine op_isN pins s σ H x _ v u Q I rx ry ⟨rfl, ?_⟩
    split at an
    · rw [non_dv qa]; exact ans_pure r dv_bl an
    · rename_i hne
      have : x ≠ .non := fun e => by
        subst e
        cases a with
        | non => exact hne rfl
        | bl b => cases bl_dv qa
        | int b => cases int_dv qa
        | str b => cases str_dv qa
        | ty b => cases ty_dv qa
        | tup ds => obtain ⟨_, _, e, _⟩ := tup_dv qa; cases e
        | lst ds => obtain ⟨_, _, e, _⟩ := lst_dv qa; cases e
        | ref n => cases (ref_dv qa).2
        | gl x => unfold DV at qa; cases qa
      rw [decide_eq_false this]
      exact ans_pure r dv_bl an
  · exact an.elim
/-! ### in -/
def inD (M : Mem) (x y : D) : Option Bool := match x, y with
  | .str i, .str j => some (!(Builtin.Str.occurrences j i 0 j.length 1).isEmpty)
  | x, y => match toPy M x, toPy M y with
    | some p, some (.list ps) => if SeqAt.shaped p && SeqAt.shaped (.list ps) then some (ps.any fun z => PyData.eqv z p) else none
    | some p, some (.tuple ps) => if SeqAt.shaped p && SeqAt.shaped (.tuple ps) then some (ps.any fun z => PyData.eqv z p) else none
    | _, _ => none
def gIn (neg : Bool) : F2 := fun x y M => match inD M x y with
  | some b => .ok (.bl (if neg then !b else b)) M
  | none => .no
theorem om_in (hu : X.A.units + 65 < cLine) : OpM X (compareOp .In) (gIn false) := by
  intro W pins s σ H x y v u Q I rx ry ⟨μ, M, a, b, r, qa, qb, an⟩
  unfold gIn at an
  split at an
  · rename_i k hk
    unfold inD at hk
    split at hk
    · cases hk
      rw [str_dv qa] at rx; rw [str_dv qb] at ry
      exact op_in_str pins s σ H _ _ v u Q I rx ry ⟨_, _, rfl, rfl, ans_pure r dv_bl an⟩
    · split at hk
      · rename_i p ps hp hps
        split at hk
        · rename_i hs
          cases hk
          simp only [Bool.and_eq_true] at hs
          exact op_inD hu pins s σ H x y v u Q I rx ry ⟨p, ps, toPy_ok r qa hp, toPy_ok r qb hps, hs.1, hs.2, ans_pure r dv_bl an⟩
        · cases hk
      · rename_i p ps hp hps
        split at hk
        · rename_i hs
          cases hk
          simp only [Bool.and_eq_true] at hs
          obtain ⟨as, r1⟩ := Dp.reads I p x v (toPy_ok r qa hp) rx
          obtain ⟨bs, r2⟩ := Dp.reads I (.tuple ps) y u (toPy_ok r qb hps) ry
          exact SeqAt.in_tuple_reads r2 r1 (SeqAt.canLay_of_shaped hs.2) (SeqAt.canLay_of_shaped hs.1) (room_in_shaped hs.1 hu) ⟨.bl _, H, I, rfl, ans_pure r dv_bl an⟩
        · cases hk
      · cases hk
  · exact an.elim
theorem om_notIn (hu : X.A.units + 65 < cLine) : OpM X (compareOp .NotIn) (gIn true) := by
  intro W pins s σ H x y v u Q I rx ry ⟨μ, M, a, b, r, qa, qb, an⟩
  unfold gIn at an
  split at an
  · rename_i k hk
    unfold inD at hk
    split at hk
    · cases hk
      rw [str_dv qa] at rx; rw [str_dv qb] at ry
      exact op_notin_str pins s σ H _ _ v u Q I rx ry ⟨_, _, rfl, rfl, ans_pure r dv_bl an⟩
    · split at hk
      · rename_i p ps hp hps
        split at hk
        · rename_i hs
          cases hk
          simp only [Bool.and_eq_true] at hs
          exact op_notInD hu pins s σ H x y v u Q I rx ry ⟨p, ps, toPy_ok r qa hp, toPy_ok r qb hps, hs.1, hs.2, ans_pure r dv_bl an⟩
        · cases hk
      · rename_i p ps hp hps
        split at hk
        · rename_i hs
          cases hk
          simp only [Bool.and_eq_true] at hs
          obtain ⟨as, r1⟩ := Dp.reads I p x v (toPy_ok r qa hp) rx
          obtain ⟨bs, r2⟩ := Dp.reads I (.tuple ps) y u (toPy_ok r qb hps) ry
          exact SeqAt.notIn_tuple_reads r2 r1 (SeqAt.canLay_of_shaped hs.2) (SeqAt.canLay_of_shaped hs.1) (room_in_shaped hs.1 hu) ⟨.bl _, H, I, rfl, ans_pure r dv_bl an⟩
        · cases hk
      · cases hk
  · exact an.elim
end
theorem hu65 {A : Around} {k : Nat} (hr : Room k A) : A.units + 65 < cLine := by have := hr.un; omega
/-! ### a op b op c -/
def eCh (g g' : F2) (fa fb fc : FE) : FE := fun ρ M => (fa ρ M).bind fun x M1 => (fb ρ M1).bind fun y M2 => (g x y M2).bind fun z M3 => match z with
  | .bl true => (fc ρ M3).bind fun w M4 => g' y w M4
  | .bl false => .ok (.bl false) M3
  | _ => .no
section
variable {X : Cx} {W : WX} {a b c : Expr} {fa fb fc : FE} {pos : Pos}
theorem ch_ok {g g' : F2} {σ : L2.St} {H : Hp} {Q : VK} (h : tM X.K (DV X.K) W (eCh g g' fa fb fc) σ H Q) :
    tChain (r2 X.K (fun c d H' => W c d σ H') g) (r2 X.K (fun c d H' => W c d σ H') g') (tM X.K (DV X.K) W fa) (tM X.K (DV X.K) W fb) (tM X.K (DV X.K) W fc) σ H Q := by
  refine tM.mono (fun v H1 ⟨μ, M, ρ, d, r, e, q, a1⟩ => ?_) (tM.seq (rel := DV X.K) h)
  have a2 := Ans.bind (rel := DV X.K) a1
  refine ⟨μ, M, ρ, r, e, a2.mono (fun u H2 ⟨μ1, M1, d1, l1, r1, q1, a3⟩ => ⟨μ1, M1, d, d1, r1, q.lift l1, q1, ?_⟩) fun _ _ _ z => z⟩
  have a4 := Ans.bind (rel := DV X.K) a3
  refine a4.mono (fun z H3 ⟨μ3, M3, d3, l3, r3, q3, a5⟩ => ?_) fun _ _ _ z => z
  cases d3 with
  | bl k =>
    refine ⟨k, by unfold DV at q3; exact q3, ?_⟩
    cases k with
    | false => rw [if_neg (by decide)]; exact a5 μ3 H3 _ (Lift.refl ..) r3 dv_bl
    | true =>
      rw [if_pos rfl]
      have a6 := Ans.bind (rel := DV X.K) a5
      exact ⟨μ3, M3, ρ, r3, (e.lift l1).lift l3, a6.mono (fun w H4 ⟨μ4, M4, d4, l4, r4, q4, a7⟩ => ⟨μ4, M4, d1, d4, r4, (q1.lift l3).lift l4, q4, a7⟩) fun _ _ _ z => z⟩
  | _ => exact a5.elim
theorem me_ch {op op' : CmpOp} {g g' : F2} (ho : OpM X (compareOp op) g) (ho' : OpM X (compareOp op') g') (ha : ME X W a fa) (hb : ME X W b fb) (hc : ME X W c fc) (hm : lastMarks [op, op'] [b, c] = false := by with_unfolding_all rfl) :
    ME X W (.Compare a [op, op'] [b, c] pos) (eCh g g' fa fb fc) := by
  refine ⟨fun pins s σ H Q I h => ?_⟩
  exact (pe_chain (ho (fun c d H' => W c d σ H')) (ho' (fun c d H' => W c d σ H')) ha hb hc hm).run pins s σ H Q I (ch_ok h)
theorem mt_ch {op op' : CmpOp} {g g' : F2} (ho : OpM X (compareOp op) g) (ho' : OpM X (compareOp op') g') (ha : ME X W a fa) (hb : ME X W b fb) (hc : ME X W c fc) (hm : lastMarks [op, op'] [b, c] = false := by with_unfolding_all rfl) :
    MT X W (.Compare a [op, op'] [b, c] pos) (Br.tC (eCh g g' fa fb fc)) := by
  refine ⟨fun pins s σ H Q I h => ?_⟩
  refine (pt_chain (ho (fun c d H' => W c d σ H')) (ho' (fun c d H' => W c d σ H')) ha hb hc hm).run pins s σ H Q I ?_
  unfold tTest
  have h2 : tM X.K (DV X.K) W (eCh g g' fa fb fc) σ H fun x H' => ∃ k, x = .bl k ∧ Q k H' := by
    unfold Br.tC at h
    refine tM.mono (fun v H1 ⟨μ, M, ρ, d, r, e, q, a1⟩ => ?_) (tM.seq (rel := DV X.K) h)
    cases d with
    | bl k => exact ⟨k, bl_dv q, a1 μ H1 k (Lift.refl ..) r rfl⟩
    | _ => exact a1.elim
  exact ch_ok h2
/-! ### slices -/
abbrev FO := En → Mem → R (Option Int)
def OVr (μ : Nat → Addr) (N : Nat) (H : Hp) (a b : Option Int) : Prop := a = b
def MO' (X : Cx) (W : WX) (e : Option Expr) (f : FO) : Prop := PO X e (tM X.K OVr W f)
def oN : FO := fun _ M => .ok none M
def oS (f : FE) : FO := fun ρ M => (f ρ M).bind fun d M1 => match d with
  | .int i => .ok (some i) M1
  | _ => .no
theorem mo_none : MO' X W none oN := ⟨fun pins s σ H Q I ⟨μ, M, ρ, r, e, q⟩ => po_none.run pins s σ H Q I (q μ H none (Lift.refl ..) r rfl)⟩
theorem mo_some (h : ME X W a fa) : MO' X W (some a) (oS fa) := by
  refine ⟨fun pins s σ H Q I hw => (po_some h).run pins s σ H Q I ?_⟩
  refine tM.mono (fun v H1 ⟨μ, M, ρ, d, r, e, q, a1⟩ => ?_) (tM.seq (rel := DV X.K) hw)
  cases d with
  | int k => exact ⟨k, int_dv q, a1 μ H1 _ (Lift.refl ..) r rfl⟩
  | _ => exact a1.elim
def cutD (xs : List D) (lo hi : Option Int) : List D := (xs.drop (HT.sIx xs.length 0 lo)).take (HT.sIx xs.length xs.length hi - HT.sIx xs.length 0 lo)
def gSl (x : D) (lo hi : Option Int) (M : Mem) : R D := match x with
  | .tup xs => .ok (.tup (cutD xs lo hi)) M
  | .str z => if z.length ≤ sizeLine then .ok (.str (cutS z lo hi)) M else .no
  | x => match seqL M x with
    | some xs => .ok (.ref M.length) (M ++ [.lst (cutD xs lo hi)])
    | none => .no
theorem cut_dv {K : PySem.W.Frag} {μ : Nat → Addr} {N : Nat} {H : Hp} {ds : List D} {vs : List V} (q : DVs K μ N H ds vs) (lo hi : Option Int) : DVs K μ N H (cutD ds lo hi) (cutV vs lo hi) := by
  unfold cutD cutV
  rw [q.length]
  exact (q.drop _).take _
def rSlM (K : PySem.W.Frag) (W : W0) : V → Option Int → Option Int → Hp → VK → Prop := fun x lo hi H Q => ∃ μ M d, Rel K μ M H ∧ DV K μ M.length H d x ∧ Ans K (DV K) W μ M.length H (gSl d lo hi M) Q
theorem sl_any (W : W0) : SlR X (rSlM X.K W) := by
  intro pins s σ H x v vl vu lo hi sl Q I rx hs pl pu ⟨μ, M, d, r, q, an⟩
  unfold gSl at an
  split at an
  · rename_i ds
    obtain ⟨a, xs, ev, sq, dq⟩ := tup_dv q
    refine sl_tupA pins s σ H x v vl vu lo hi sl Q I rx hs pl pu ⟨a, xs, ev, sq, fun hw => ?_, fun hw p hp => ?_⟩
    · refine ans_pure r (dv_tup sq ?_) an
      have : cutD ds lo hi = ds := by
        unfold cutD
        rw [← dq.length, hw.1, hw.2, List.drop_zero, Nat.sub_zero, dq.length, List.take_length]
      rw [this]; exact dq
    · exact an μ _ _ (Lift.fresh hp) (r.fresh hp) (dv_tup (SqT.of upd_same) ((cut_dv dq lo hi).lift (Lift.fresh hp)))
  · split at an
    · rename_i z hz
      exact sl_str pins s σ H x v vl vu lo hi sl Q I rx hs pl pu ⟨_, str_dv q, hz, ans_pure r dv_str an⟩
    · exact an.elim
  · split at an
    · rename_i ds hd
      obtain ⟨a, xs, ev, sq, dq⟩ := seqL_ok r q hd
      exact sl_list pins s σ H x v vl vu lo hi sl Q I rx hs pl pu ⟨a, xs, ev, sq, fun p hp => ans_new r (cut_dv dq lo hi) an p hp⟩
    · exact an.elim
def eSl (f : FE) (lo hi : FO) : FE := fun ρ M => (f ρ M).bind fun x M1 => (lo ρ M1).bind fun l M2 => (hi ρ M2).bind fun h M3 => gSl x l h M3
theorem me_sl {lo hi : Option Expr} {fl fh : FO} {p2 : Pos} (he : ME X W a fa) (hl : MO' X W lo fl) (hh : MO' X W hi fh) : ME X W (.Subscript a (.Slice lo hi none p2) pos) (eSl fa fl fh) := by
  refine ⟨fun pins s σ H Q I h => (pe_slice (sl_any (fun c d H' => W c d σ H')) he hl hh).run pins s σ H Q I ?_⟩
  refine tM.mono (fun v H1 ⟨μ, M, ρ, d, r, e, q, a1⟩ => ?_) (tM.seq (rel := DV X.K) h)
  have a2 := Ans.bind (rel := OVr) a1
  refine ⟨μ, M, ρ, r, e, a2.mono (fun l H2 ⟨μ1, M1, d1, l1, r1, q1, a3⟩ => ?_) fun _ _ _ z => z⟩
  have e1 : d1 = l := q1
  subst e1
  have a4 := Ans.bind (rel := OVr) a3
  refine ⟨μ1, M1, ρ, r1, e.lift l1, a4.mono (fun l H3 ⟨μ2, M2, d2, l2, r2, q2, a5⟩ => ?_) fun _ _ _ z => z⟩
  have e2 : d2 = l := q2
  subst e2
  exact ⟨μ2, M2, d, r2, (q.lift l1).lift l2, a5⟩
end
end Br
set_option Elab.async false
set_option linter.all false
set_option maxRecDepth 100000
set_option maxHeartbeats 4000000
namespace Br
open PySem PySem.Spec PyProof.Rows L2
section
variable {X : Cx}
theorem cm_str : CallM X (.type "str") gStr := by
  intro W pins s σ H xs us Q I rv ⟨μ, M, as, r, q, an⟩
  unfold gStr at an
  split at an
  · split at an
    · rename_i i hi
      obtain ⟨v, r', e, q1, q2⟩ := q.inv_cons
      rw [e, q2.inv_nil, int_dv q1] at rv
      exact call_str_int pins s σ H _ us Q I rv ⟨i, rfl, hi, ans_pure r dv_str an⟩
    · exact an.elim
  · obtain ⟨v, r', e, q1, q2⟩ := q.inv_cons
    rw [e, q2.inv_nil, str_dv q1] at rv
    exact SkE.call_str_str pins s σ H _ us Q I rv ⟨_, rfl, ans_pure r dv_str an⟩
  · exact an.elim
end
/-! ### match over constants -/
structure PCs (X : Cx) (cs : List MatchCase) (t : V → TS) : Prop where
  run : ∀ (pins : List (Addr × Obj)) (s : Shared) (σ : L2.St) (H : Hp) (D : Ends) (v : V) (u : Value) (b : Bool), Inv X pins σ H s → RelV v u → t v D σ H → wpAny (model X.prog X.w) X.A (matchCases cs X.env u b) (SP X pins D) X.xe s
def MC (X : Cx) (W : WX) (cs : List MatchCase) (g : D → FStm) : Prop := PCs X cs (fun v D σ H => ∃ μ M ρ d, Rel X.K μ M H ∧ EV X.K μ M.length H ρ σ ∧ DV X.K μ M.length H d v ∧ AnsS X.K W μ M.length H (g d ρ M) D)
def cN : D → FStm := fun _ ρ M => .go .nx ρ M
def cV (f : FE) (g : FStm) (r : D → FStm) : D → FStm := fun d ρ M => SR.of (f ρ M) ρ fun y M1 => match eqD M1 d y with
  | some true => g ρ M1
  | some false => r d ρ M1
  | none => .no
def cA (g : FStm) : D → FStm := fun _ => g
def sMatch (f : FE) (g : D → FStm) : FStm := fun ρ M => SR.of (f ρ M) ρ fun d M1 => g d ρ M1
section
variable {X : Cx} {W : WX} {e : Expr} {body : List Stmt} {rest : List MatchCase} {f : FE} {g : FStm} {r : D → FStm} {pos : Pos}
theorem mc_nil : MC X W [] cN := ⟨fun pins s σ H D v u b I rv ⟨μ, M, ρ, d, r, e, q, a⟩ => wpAny_matchCases_nil ⟨σ, H, I, a μ H σ (Lift.refl ..) r e⟩⟩
theorem mc_any {p : Pos} (hb : MSs X W body g) : MC X W (⟨.MatchAs none none p, none, body⟩ :: rest) (cA g) := by
  refine ⟨fun pins s σ H D v u b I rv ⟨μ, M, ρ, d, r, e, q, a⟩ => ?_⟩
  refine wpAny_matchCases_cons (wpAny_matchPattern_Capture ?_)
  show wpAny _ _ (assignInOrder [] []) _ _ _
  exact wpAny_assignInOrder_none (hb.run pins s σ H D I ⟨μ, M, ρ, r, e, a⟩)
theorem mc_val (hu : X.A.units + 64 < cLine) (he : ME X W e f) (hb : MSs X W body g) (hr : MC X W rest r) : MC X W (⟨.MatchValue e pos, none, body⟩ :: rest) (cV f g r) := by
  refine ⟨fun pins s σ H D v u b I rv ⟨μ, M, ρ, d, rl, ev, q, a⟩ => ?_⟩
  refine wpAny_matchCases_cons (wpAny_matchPattern_Value ?_)
  unfold cV at a
  have h0 : tM X.K (DV X.K) W f σ H (fun v1 H1 => ∃ μ1 M1 d1, Rel X.K μ1 M1 H1 ∧ EV X.K μ1 M1.length H1 ρ σ ∧ DV X.K μ1 M1.length H1 d v ∧ DV X.K μ1 M1.length H1 d1 v1 ∧ AnsS X.K W μ1 M1.length H1 (match eqD M1 d d1 with
      | some true => g ρ M1
      | some false => r d ρ M1
      | none => .no) D) := by
    refine ⟨μ, M, ρ, rl, ev, ?_⟩
    cases hf : f ρ M with
    | no => rw [hf] at a; exact a.elim
    | ex x M1 => rw [hf] at a; exact fun μ' H' c dd l r' x' => a μ' H' σ c dd l r' (ev.lift l) x'
    | ok d1 M1 =>
      rw [hf] at a
      exact fun μ1 H1 v1 l r1 q1 => ⟨μ1, M1, d1, r1, ev.lift l, q.lift l, q1, AnsS.rebase l a⟩
  refine thn (he.run pins s σ H _ I h0) fun x s1 ⟨v1, H1, I1, r1, μ1, M1, d1, rl1, ev1, q1, q2, a1⟩ => ?_
  cases hk : eqD M1 d d1 with
  | none => rw [hk] at a1; exact a1.elim
  | some k =>
    rw [hk] at a1
    refine thn (om_eq hu (fun _ _ _ => False) pins s1 σ H1 v v1 u x (fun z H2 => z = .bl k ∧ ∃ μ2, Rel X.K μ2 M1 H2 ∧ EV X.K μ2 M1.length H2 ρ σ ∧ DV X.K μ2 M1.length H2 d v ∧ AnsS X.K W μ2 M1.length H2 (match some k with
      | some true => g ρ M1
      | some false => r d ρ M1
      | none => .no) D) I1 rv r1 ?_) fun c s2 ⟨z, H2, I2, rz, e1, μ2, r2, ev2, q3, a2⟩ => ?_
    · refine ⟨μ1, M1, d, d1, rl1, q1, q2, ?_⟩
      unfold gEq; rw [hk]
      exact fun μ2 H2 z l r2 qz => ⟨bl_dv qz, μ2, r2, ev1.lift l, q1.lift l, AnsS.rebase l a1⟩
    · subst e1
      cases rz
      refine wpAny_truthy_bool ?_
      cases k with
      | true =>
        rw [if_pos rfl]
        show wpAny _ _ (assignInOrder [] []) _ _ _
        exact wpAny_assignInOrder_none (hb.run pins s2 σ H2 D I2 ⟨μ2, M1, ρ, r2, ev2, a2⟩)
      | false =>
        rw [if_neg (by decide)]
        exact hr.run pins s2 σ H2 D v u false I2 rv ⟨μ2, M1, ρ, d, r2, ev2, q3, a2⟩
theorem ms_match {cs : List MatchCase} {gc : D → FStm} (he : ME X W e f) (hc : MC X W cs gc) : MS X W (.Match e cs pos) (sMatch f gc) := by
  refine ⟨fun pins s σ H D I h => ?_⟩
  refine wpAny_Match ?_
  refine thn (he.run pins s σ H _ I (tSt.expr (rel := DV X.K) h)) fun u s1 ⟨v, H1, I1, rv, μ, M, ρ, d, r, ev, q, a⟩ => ?_
  exact hc.run pins s1 σ H1 D v u true I1 rv ⟨μ, M, ρ, d, r, ev, q, a⟩
end
/-! ### a, *b = a tuple -/
theorem star_tup {prog : Program} {w : World} {A : Around} {E : Value → Shared → Prop} {s : Shared} {l : Addr} {items : Array Value} {n i : Nat} {Q : List Value → Shared → Prop} (hl : IsTup s.heap l items) (hh : A.handled = none) (hi : i < n) (hn : n ≤ items.size + 1) (hz : items.size ≤ 16384)
    (h : ∀ (h2 : Heap) (tk : Nat), (∀ b o, s.heap.get? b = some o → h2.get? b = some o) →
      Q (items.toList.take i ++ [Value.ref h2.objs.size] ++ (items.toList.drop i).drop (items.size + 1 - n)) { s with heap := h2.push { cls := .type "list", data := .seq ((items.toList.drop i).take (items.size + 1 - n)).toArray }, toks := tk }) :
    wpAny (model prog w) A (unpackItems (.ref l) n (some i)) Q E s := by
  have hne : l ≠ s.heap.objs.size := by
    obtain ⟨o, ho, _⟩ := hl
    exact Nat.ne_of_lt (Heap.lt_size ho)
  unfold unpackItems notIterableAtAll
  refine wpAny_bind (wpAny_bind (wpAny_specialOf hl.typeIs slot_tuple_iter.lookup (wpAny_pure ?_)))
  rw [if_neg (by decide)]
  refine wpAny_bind (wpAny_holding (iter_tuple hl ?_))
  refine wpAny_bind (wpAny_holding (draw_tuple hne i 0 _ _ ⟨_, Heap.get?_push_size _ rfl, rfl, rfl⟩ (hl.push _) (by omega) fun h1 t1 b1 => ?_))
  have l1 : IsTup h1 l items := (hl.push _).extBut b1.extBut hne
  have z1 : (items.toList.take i).length = i := by
    rw [List.length_take, Array.length_toList]
    omega
  have z2 : (items.toList.drop i).length = items.size - i := by rw [List.length_drop, Array.length_toList]
  rw [List.drop_zero, if_neg (by rw [z1]; omega)]
  rw [Nat.zero_add] at t1
  obtain ⟨oi, e1, _⟩ := id t1
  obtain ⟨ol, e2, _⟩ := id l1
  refine wpAny_bind (wpAny_holding (PySem.W.kun_collect (s := { s with heap := h1 }) (T := "tuple_iterator") (.inr (.inr (.inr rfl))) (Walks.tuple (A := A.in1) hh s.heap.objs.size l hne items) (fun j u st => st.1.typeIs) (k := i) (by omega) ⟨t1, l1⟩ (Heap.lt_size e1) (Heap.lt_size e2)
    (fun h2 tk k2 => ?_) (by rw [sizeLine_eq]; omega)))
  show wpAny _ _ (if (items.toList.drop i).length < n - 1 - i then _ else _) _ _ _
  rw [if_neg (by rw [z2]; omega)]
  show wpAny _ _ (newList ((items.toList.drop i).take ((items.toList.drop i).length - (n - 1 - i))) >>= fun d => pure (items.toList.take i ++ [d] ++ (items.toList.drop i).drop ((items.toList.drop i).length - (n - 1 - i)))) _ _ _
  have z3 : (items.toList.drop i).length - (n - 1 - i) = items.size + 1 - n := by rw [z2]; omega
  rw [z3]
  have k3 : ∀ b o, s.heap.get? b = some o → h2.get? b = some o := fun b o e => by
    have hb : b ≠ s.heap.objs.size := Nat.ne_of_lt (Heap.lt_size e)
    exact k2 b o hb (b1.extBut b o hb (Heap.get?_push_of_some _ e))
  exact wpAny_bind (wpAny_newObj_type (wpAny_pure (h h2 tk k3)) (by
    show ((items.toList.drop i).take (items.size + 1 - n)).toArray.size ≤ sizeLine
    rw [List.size_toArray, List.length_take, z2, sizeLine_eq]; omega))
/-- a, *b = d: d a tuple of one or more, b a list that nobody writes -/
def gStar (gs : List D → FStm) : FG := fun d ρ M => match d with
  | .tup (x :: xs) => if xs.length < 16384 then gs [x, .lst xs] ρ M else .no
  | _ => .no
theorem mg_star {X : Cx} {W : WX} {t1 t2 : Expr} {p pos : Pos} {k : Nat} {gs : List D → FStm} (hc : X.calm = true) (h : MGs X W [t1, t2] gs)
    (hn : (assignEach [t1, .Starred t2 p] X.env).length = 2 := by rfl) (hst : (assignEach [t1, .Starred t2 p] X.env).findIdx? (·.1) = some 1 := by rfl)
    (hm : (assignEach [t1, .Starred t2 p] X.env).map (·.2) = (assignEach [t1, t2] X.env).map (·.2) := by rfl) : MG X W (.Tuple [t1, .Starred t2 p] k pos) (gStar gs) := by
  refine ⟨fun pins s σ H v u Q I rv ⟨μ, M, ρ, d, r, e, q, a⟩ => ?_⟩
  unfold gStar at a
  split at a
  · rename_i x xs
    split at a
    · rename_i hl
      obtain ⟨p, vs, ev, sq, dq⟩ := tup_dv q
      obtain ⟨y, ys, e2, q1, q2⟩ := dq.inv_cons
      subst ev; subst e2
      cases rv
      obtain ⟨its, rvs, ht, hz⟩ := I.tuple sq
      obtain ⟨u0, us, rfl, ru, rus⟩ : ∃ u0 us, its = u0 :: us ∧ RelV y u0 ∧ Vals ys us := by
        cases rvs with
        | cons h1 h2 => exact ⟨_, _, rfl, h1, h2⟩
      have hus : us.length = xs.length := by rw [← rus.length]; exact q2.length
      rw [PyProof.Rows.assign_Tuple]
      refine wpAny_bind (wpAny_standAt ?_)
      unfold unpack
      rw [hn, hst]
      refine wpAny_bind (wpAny_holding (star_tup ht (I.ok.hd hc) (by decide) (by simp) (by simp; omega) fun h2 tk k2 => ?_))
      rw [hm]
      have e3 : ((u0 :: us).toArray.toList.drop 1).take ((u0 :: us).toArray.size + 1 - 2) = us := by simp
      have e4 : (u0 :: us).toArray.toList.take 1 ++ [Value.ref h2.objs.size] ++ ((u0 :: us).toArray.toList.drop 1).drop ((u0 :: us).toArray.size + 1 - 2) = [u0, Value.ref h2.objs.size] := by simp
      rw [e3, e4]
      have I2 : Inv X pins σ H { s with heap := h2, toks := tk } := I.kept k2
      have hHn : H h2.objs.size = none := I2.hok.fresh (Nat.le_refl _)
      have sz : us.length ≤ sizeLine := by rw [hus, sizeLine_eq]; omega
      have I3 : Inv X pins σ (upd H h2.objs.size (.lst ys)) { s with heap := h2.push { cls := .type "list", data := .seq us.toArray }, toks := tk } :=
        I2.laid (t' := tk) (fun b o e => Heap.get?_push_of_some _ e) (Nat.le_refl _) ⟨by rw [rus.length]; exact sz, us, 0, rus, Heap.get?_push_size _ rfl⟩
      obtain ⟨ob, I4⟩ := Inv.lock I3 upd_same
      rw [upd_upd] at I4
      refine h.run pins _ σ _ [y, .ref h2.objs.size] [u0, .ref h2.objs.size] Q I4 (.cons ru (.cons rfl .nil)) ⟨μ, M, ρ, [x, .lst xs], r.fresh hHn, e.lift (Lift.fresh hHn), ?_, AnsS.rebase (Lift.fresh hHn) a⟩
      refine DVs.cons (q1.lift (Lift.fresh hHn)) (DVs.cons ?_ DVs.nil)
      unfold DV
      exact ⟨_, ys, rfl, .inl ⟨ob, upd_same⟩, q2.lift (Lift.fresh hHn)⟩
    · exact a.elim
  · exact a.elim
end Br
set_option Elab.async false
set_option linter.all false
set_option maxRecDepth 100000
set_option maxHeartbeats 4000000
namespace Br
open PySem PySem.Spec PyProof.Rows L2
/-! ### a dict of the module: texts by texts -/
structure KS (K : PySem.W.Frag) (w : World) (name : Str) (kvs : List (Str × Str)) : Prop where
  kd : ∃ es n, KDict K w (He.ga K name) es n
  get : ∀ z, match kvs.lookup z with
    | some v => ∃ u, PySem.W.nsIn K (He.ga K name) z = some (some u) ∧ RelV (.str v) u
    | none => PySem.W.nsIn K (He.ga K name) z = some none
theorem ns_none {K : PySem.W.Frag} {w : World} {a : Addr} {ks : List Str} {z : Str} (h : He.dicW K a = some (He.keysIn w.params ks)) (hz : z ∉ ks) : PySem.W.nsIn K a z = some none := by
  unfold He.dicW at h
  split at h
  · rename_i es n sl e
    have hk : es.toList.map He.keyOf = He.keysIn w.params ks := by
      split at h
      · exact Option.some.inj h
      · cases h
    unfold PySem.W.nsIn
    rw [e]
    dsimp only
    have key : ∀ (l : List DictEntry) (ks : List Str), l.map He.keyOf = He.keysIn w.params ks → z ∉ ks → l.find? (·.key.isStr z) = none ∧ l.any (·.refKey) = false := by
      intro l
      induction l with
      | nil => intro ks _ _; exact ⟨rfl, rfl⟩
      | cons d r ih =>
        intro ks hk hz
        cases ks with
        | nil => cases hk
        | cons k ks =>
          have h1 : He.keyOf d :: r.map He.keyOf = some (k, PyData.keyHash w.params k) :: He.keysIn w.params ks := hk
          injection h1 with h2 h3
          obtain ⟨i1, i2⟩ := ih ks h3 fun m => hz (List.mem_cons_of_mem _ m)
          unfold He.keyOf at h2
          split at h2
          · rename_i x t q
            have h4 := Option.some.inj h2
            have hx : x = k := (Prod.mk.inj h4).1
            subst hx
            have hne : (d.key.isStr z) = false := by
              rw [q]
              show (x == z) = false
              exact beq_eq_false_iff_ne.mpr fun e => hz (by rw [e]; exact List.mem_cons_self ..)
            have hr : d.refKey = false := by unfold DictEntry.refKey; rw [q]
            refine ⟨?_, ?_⟩
            · rw [List.find?_cons, hne]; exact i1
            · rw [List.any_cons, hr, i2]; rfl
          · cases h2
    obtain ⟨k1, k2⟩ := key es.toList ks hk hz
    rw [k1, k2]
    rfl
  · cases h
theorem ks_of {K : PySem.W.Frag} {w : World} {name : Str} {kvs : List (Str × Str)} (h : He.dicW K (He.ga K name) = some (He.keysIn w.params (kvs.map (·.1)))) (hv : He.valsB K (He.ga K name) (kvs.map fun q => (q.1, He.Dv.str q.2)) = true) : KS K w name kvs := by
  refine ⟨He.dicW_ok h, fun z => ?_⟩
  cases e : kvs.lookup z with
  | none =>
    refine ns_none h fun m => ?_
    obtain ⟨q, hq, rfl⟩ := List.mem_map.mp m
    exact absurd e (by
      intro e
      have : ∀ l : List (Str × Str), q ∈ l → l.lookup q.1 ≠ none := by
        intro l
        induction l with
        | nil => intro h; cases h
        | cons p l ih =>
          intro h e
          rw [List.lookup_cons] at e
          split at e
          · cases e
          · rename_i hne
            rcases List.mem_cons.mp h with rfl | h
            · simp at hne
            · exact ih h e
      exact this kvs hq e)
  | some v =>
    have hm : (z, v) ∈ kvs := by
      have : ∀ l : List (Str × Str), l.lookup z = some v → (z, v) ∈ l := by
        intro l
        induction l with
        | nil => intro h; cases h
        | cons p l ih =>
          intro e
          rw [List.lookup_cons] at e
          split at e
          · rename_i hz
            cases e
            rw [eq_of_beq hz]; exact List.mem_cons_self ..
          · exact List.mem_cons_of_mem _ (ih e)
      exact this kvs e
    exact He.valsB_ok hv (q := (z, He.Dv.str v)) (List.mem_map.mpr ⟨(z, v), hm, rfl⟩)
def gInK (name : Str) (kvs : List (Str × Str)) (neg : Bool) : F2 := fun x y M => match x, y with
  | .str z, .gl n => if n = name then .ok (.bl (if neg then !(kvs.lookup z).isSome else (kvs.lookup z).isSome)) M else .no
  | _, _ => .no
def gIxK (name : Str) (kvs : List (Str × Str)) : F2 := fun x y M => match x, y with
  | .gl n, .str z => if n = name then (match kvs.lookup z with
    | some v => .ok (.str v) M
    | none => .no) else .no
  | _, _ => .no
theorem gl_dv {K : PySem.W.Frag} {μ : Nat → Addr} {N : Nat} {H : Hp} {i : Str} {v : V} (h : DV K μ N H (.gl i) v) : v = .ref (He.ga K i) := by unfold DV at h; exact h
section
variable {X : Cx} {name : Str} {kvs : List (Str × Str)}
theorem om_inK (D : KS X.K X.w name kvs) : OpM X (compareOp .In) (gInK name kvs false) := by
  intro W pins s σ H x y v u Q I rx ry ⟨μ, M, a, b, r, qa, qb, an⟩
  unfold gInK at an
  split at an
  · split at an
    · rename_i z n hn
      subst hn
      obtain ⟨es, n, kd⟩ := D.kd
      have g := D.get z
      have ha := str_dv qa
      have hb := gl_dv qb
      cases e : kvs.lookup z with
      | none =>
        rw [e] at g an
        exact op_in_kd kd pins s σ H x y v u Q I rx ry ⟨z, none, ha, hb, g, ans_pure r dv_bl an⟩
      | some t =>
        rw [e] at g an
        obtain ⟨u0, g1, g2⟩ := g
        exact op_in_kd kd pins s σ H x y v u Q I rx ry ⟨z, some u0, ha, hb, g1, ans_pure r dv_bl an⟩
    · exact an.elim
  · exact an.elim
theorem om_notInK (D : KS X.K X.w name kvs) : OpM X (compareOp .NotIn) (gInK name kvs true) := by
  intro W pins s σ H x y v u Q I rx ry ⟨μ, M, a, b, r, qa, qb, an⟩
  unfold gInK at an
  split at an
  · split at an
    · rename_i z n hn
      subst hn
      obtain ⟨es, n, kd⟩ := D.kd
      have g := D.get z
      have ha := str_dv qa
      have hb := gl_dv qb
      cases e : kvs.lookup z with
      | none =>
        rw [e] at g an
        exact op_notIn_kd kd pins s σ H x y v u Q I rx ry ⟨z, none, ha, hb, g, ans_pure r dv_bl an⟩
      | some t =>
        rw [e] at g an
        obtain ⟨u0, g1, g2⟩ := g
        exact op_notIn_kd kd pins s σ H x y v u Q I rx ry ⟨z, some u0, ha, hb, g1, ans_pure r dv_bl an⟩
    · exact an.elim
  · exact an.elim
theorem ixK (D : KS X.K X.w name kvs) : IxM X (gIxK name kvs) := by
  intro W value slice pins s σ H x y v u Q I rx ry ⟨μ, M, a, b, r, qa, qb, an⟩ hs
  unfold gIxK at an
  split at an
  · split at an
    · rename_i n z hn
      subst hn
      obtain ⟨es, n, kd⟩ := D.kd
      have g := D.get z
      have ha := gl_dv qa
      have hb := str_dv qb
      cases e : kvs.lookup z with
      | none => rw [e] at an; exact an.elim
      | some t =>
        rw [e] at g an
        obtain ⟨u0, g1, g2⟩ := g
        refine ix_kdict value slice pins s σ H x y v u Q I rx ry ⟨_, z, .str t, ha, hb, ⟨es, n, u0, kd.at_, kd.lit, g1, g2⟩, ans_pure r dv_str an⟩ hs
    · exact an.elim
  · exact an.elim
end
end Br
set_option Elab.async false
set_option linter.all false
set_option maxRecDepth 100000
set_option maxHeartbeats 4000000
namespace Br
open PySem PySem.Spec PyProof.Rows L2
/-! ### a tuple's [::-1] -/
theorem pick_rev (xs : Array Value) : ((List.range xs.size).filterMap fun (m : Nat) => xs[((xs.size : Int) - 1 + (m : Int) * (-1)).toNat]?) = xs.toList.reverse := by
  have key : ∀ n, n ≤ xs.size → ((List.range n).filterMap fun (m : Nat) => xs[((xs.size : Int) - 1 + (m : Int) * (-1)).toNat]?) = xs.toList.reverse.take n := by
    intro n
    induction n with
    | zero => intro _; rfl
    | succ n ih =>
      intro hn
      rw [List.range_succ, List.filterMap_append, ih (by omega)]
      have e : ((xs.size : Int) - 1 + (n : Int) * (-1)).toNat = xs.size - 1 - n := by omega
      have hl : n < xs.toList.reverse.length := by rw [List.length_reverse, Array.length_toList]; omega
      rw [List.take_succ, List.getElem?_eq_getElem hl]
      congr 1
      simp only [List.filterMap_cons, List.filterMap_nil, e]
      have h2 : xs.size - 1 - n < xs.size := by omega
      rw [Array.getElem?_eq_getElem h2]
      have h3 : xs.toList.reverse[n] = xs[xs.size - 1 - n] := by
        rw [List.getElem_reverse]; simp
      rw [h3]; rfl
  rw [key xs.size (Nat.le_refl _)]
  exact List.take_of_length_le (by simp)
theorem tup_rev {prog : Program} {w : World} {A : Around} {E : Value → Shared → Prop} {s : Shared} {t sl : Addr} {items : Array Value} {vl vu vs : Value} {Q : Value → Shared → Prop} (ht : IsTup s.heap t items) (hs : s.heap.IsSliceOf sl vl vu vs) (pl : IsPart vl none) (pu : IsPart vu none) (ps : IsPart vs (some (-1)))
    (h : Q (.ref s.heap.objs.size) { s with heap := s.heap.push { cls := .type "tuple", data := .seq items.toList.reverse.toArray } }) (hsz : items.size ≤ sizeLine) : wpAny (model prog w) A (getItem (.ref t) (.ref sl)) Q E s := by
  have hz : sizeOk (.seq items.toList.reverse.toArray) := by
    show items.toList.reverse.toArray.size ≤ sizeLine
    rw [List.size_toArray, List.length_reverse, Array.length_toList]; exact hsz
  obtain ⟨os, hos, hcs, hds⟩ := id hs
  have hT : s.TypeIs (.ref sl) "slice" := ⟨os, hos, hcs⟩
  unfold getItem
  refine wpAny_holding (wpAny_bind (wpAny_sequenceKey (A := A) ht.typeIs (by decide) ?_))
  refine wpAny_bind (wpAny_callSpecial?_slot (A := A) (name := Str.ofString "__getitem__") ht.typeIs PyProof.Rows.slot_tuple_getitem (wpAny_call_entry PyProof.Rows.slot_tuple_getitem ht.typeIs entry_tuple_getitem ?_ (args_tuple_getitem _ _)))
  show wpAny _ _ (Builtin.Tuple.tupleItemsOf (.ref t) >>= _) _ _ s
  refine wpAny_bind (PyProof.Rows.tupleItemsOf_ ht (wpAny_bind (wpAny_typeOf hT ?_)))
  rw [if_pos (by decide)]
  have app : ∀ (Q1 : Int × Int × Nat → Shared → Prop) (A1 : Around) (E1 : Value → Shared → Prop), Q1 ((items.size : Int) - 1, -1, items.size) s → wpAny (model prog w) A1 (Builtin.Slice.sliceApplied (.ref sl) (pure (items.size : Int))) Q1 E1 s := fun Q1 A1 E1 hq => by
    unfold Builtin.Slice.sliceApplied Builtin.Slice.sliceFields
    refine wpAny_bind (wpAny_bind (wpAny_field hos hds (x := vl) rfl (wpAny_bind (wpAny_field hos hds (x := vu) rfl (wpAny_bind (wpAny_field hos hds (x := vs) rfl (wpAny_pure ?_)))))))
    refine wpAny_bind (HT.slicePart_ ps ?_)
    show wpAny _ _ (if ((-1 : Int) == 0) = true then _ else _) _ _ s
    rw [if_neg (by decide)]
    refine wpAny_bind (HT.slicePart_ pl (wpAny_bind (HT.slicePart_ pu (wpAny_bind (wpAny_pure ?_)))))
    have e1 : Builtin.Slice.sliceAdjust none none (-1) (items.size : Int) = ((items.size : Int) - 1, -1) := by simp [Builtin.Slice.sliceAdjust]
    have e2 : Builtin.Slice.slicePlaces ((items.size : Int) - 1) (-1) (-1) = items.size := by
      unfold Builtin.Slice.slicePlaces
      rw [if_neg (by decide)]
      by_cases h0 : (items.size : Int) - 1 > -1
      · rw [if_pos h0]; simp
      · rw [if_neg h0]; omega
    show wpAny _ _ (match Builtin.Slice.sliceAdjust none none (-1) (items.size : Int) with | (lo, hi) => pure (lo, (-1 : Int), Builtin.Slice.slicePlaces lo hi (-1))) _ _ s
    rw [e1]
    show wpAny _ _ (pure ((items.size : Int) - 1, (-1 : Int), Builtin.Slice.slicePlaces ((items.size : Int) - 1) (-1) (-1))) _ _ s
    rw [e2]
    exact wpAny_pure hq
  refine wpAny_bind (app _ _ _ ?_)
  show wpAny _ _ (if ((items.size : Int) - 1 == 0 && (-1 : Int) == 1 && items.size == items.size) = true then _ else _) _ _ s
  rw [if_neg (by simp), pick_rev]
  first
    | exact wpAny_bind (m := Builtin.Tuple.tupleExact _) (wpAny_newObj_type (A := A.in1) (wpAny_pure ⟨_, rfl, wpAny_pure h⟩) hz)
    | exact wpAny_bind (m := Builtin.Tuple.tupleExact _) (wpAny_newObj_type (wpAny_bind (wpAny_pure (wpAny_pure ⟨_, rfl, wpAny_pure h⟩))) hz)
    | exact wpAny_bind (wpAny_bind (m := Builtin.Tuple.tupleExact _) (wpAny_newObj_type (wpAny_pure (wpAny_pure ⟨_, rfl, wpAny_pure h⟩)) hz))
    | exact wpAny_bind (wpAny_bind (m := Builtin.Tuple.tupleExact _) (wpAny_newObj_type (wpAny_pure ⟨_, rfl, wpAny_pure h⟩) hz))
def gRev : F1 := fun a M => match a with
  | .tup xs => .ok (.tup xs.reverse) M
  | _ => .no
section
variable {X : Cx} {W : WX} {e : Expr} {f : FE} {k : Nat} {p1 p2 p3 pos : Pos}
theorem me_rev (he : ME X W e f) : ME X W (.Subscript e (.Slice none none (some (.UnaryOp .USub (.Constant (.int 1) k p1) p2)) p3) pos) (e1 gRev f) := by
  refine ⟨fun pins s σ H Q I h => ?_⟩
  refine Subscript_ (thn (he.run pins s σ H _ I (tM.seq (rel := DV X.K) h)) fun v s1 ⟨x, H1, I1, r1, μ, M, ρ, d, rl, ev, q, a⟩ => ?_)
  unfold gRev at a
  split at a
  · obtain ⟨t, xs, ex, sq, dq⟩ := tup_dv q
    subst ex
    cases r1
    have hst : PO X (some (.UnaryOp .USub (.Constant (.int 1) k p1) p2)) (tPart (tUn (rU fun i => .int (-i)) (L2.tC (.int 1)))) := po_some (pe_un un_neg pe_int)
    refine wpAny_Slice (thn (po_none.run pins s1 σ H1 (fun o H2 => o = none ∧ H2 = H1) I1 ⟨rfl, rfl⟩) fun vl s2 ⟨l, H2, I2, pl, el, e2⟩ => ?_)
    subst el; subst e2
    refine thn (po_none.run pins s2 σ _ (fun o H3 => o = none ∧ H3 = H2) I2 ⟨rfl, rfl⟩) fun vu s3 ⟨u, H3, I3, pu, eu, e3⟩ => ?_
    subst eu; subst e3
    refine thn (hst.run pins s3 σ _ (fun o H4 => o = some (-1) ∧ H4 = H3) I3 ⟨1, rfl, -1, rfl, rfl, rfl⟩) fun vs s4 ⟨o, H4, I4, ps, eo, e4⟩ => ?_
    subst eo; subst e4
    have I5 : Inv X pins σ H4 { s4 with heap := s4.heap.push { cls := .type "slice", data := .fields #[vl, vu, vs] } } := I4.kept (t' := s4.toks) fun b ob z => Heap.get?_push_of_some _ z
    obtain ⟨its, r, ht, hz⟩ := I5.tuple sq
    have hlen := r.length
    show wpAny (model X.prog X.w) X.A (subscriptTail e (.Slice none none (some (.UnaryOp .USub (.Constant (.int 1) k p1) p2)) p3) (.ref t) (.ref s4.heap.objs.size)) (EP X pins σ Q) X.xe { s4 with heap := s4.heap.push { cls := .type "slice", data := .fields #[vl, vu, vs] } }
    refine tail_any (ops := [.ref t, .ref s4.heap.objs.size]) ht.typeIs slot_tuple_getitem.lookup ?_ (by with_unfolding_all rfl)
    refine tup_rev ht (Heap.IsSliceOf.new _ vl vu vs) pl pu ps ?_ (by rw [List.size_toArray]; omega)
    have hp := I5.hok.fresh (Nat.le_refl _)
    refine ⟨.ref _, _, I5.laid (t' := s4.toks) (o := .tup xs.reverse) (fun b ob z => Heap.get?_push_of_some _ z) (Nat.le_refl _) ?_, rfl, ?_⟩
    · exact ⟨by rw [List.length_reverse]; exact hz, its.reverse, r.reverse, _, Heap.get?_push_size _ rfl, rfl, _, rfl⟩
    · exact a μ _ _ (Lift.fresh hp) (rl.fresh hp) (dv_tup (SqT.of upd_same) (dq.reverse.lift (Lift.fresh hp)))
  · exact a.elim
end
end Br
set_option Elab.async false
set_option linter.all false
set_option maxRecDepth 100000
set_option maxHeartbeats 4000000
namespace Br
open PySem PySem.Spec PyProof.Rows
/-! ### zip(.., strict=True) over two iterators -/
abbrev IsZipS (h : Heap) (z TI TO : Addr) (f0 : Value) : Prop := h.get? z = some { cls := .type "zip", data := .fields #[f0, .bool false, .bool true, .ref TI, .ref TO] }
section
variable {prog : Program} {w : World} {A : Around} {E : Value → Shared → Prop} {s : Shared} {z TI TO i1 i2 : Addr} {fp1 fp2 : List Addr} {n i : Nat} {P1 P2 : Nat → Value → Prop} {St1 St2 : Nat → Heap → Prop} {a1 a2 : Value}
theorem dr_item {it : Addr} {fp : List Addr} {P : Nat → Value → Prop} {St : Nat → Heap → Prop} {Q : Option Value → Shared → Prop} (D : Draws prog w A it fp n P St) (hi : i < n) (st : St i s.heap)
    (hQ : ∀ x h' tk, P i x → St (i + 1) h' → Heap.SameBut it s.heap h' → Q (some x) { s with heap := h', toks := tk }) : wpAny (model prog w) A (Builtin.SmallTypes.nextOrEnd (.ref it)) Q E s := by
  unfold Builtin.SmallTypes.nextOrEnd
  exact wpAny_bind (wpAny_attempt (D.item i s _ _ hi st fun x h' tk p q r => wpAny_pure (hQ x h' tk p q r)))
theorem dr_end {it : Addr} {fp : List Addr} {P : Nat → Value → Prop} {St : Nat → Heap → Prop} {Q : Option Value → Shared → Prop} (D : Draws prog w A it fp n P St) (st : St n s.heap)
    (hQ : ∀ h', Heap.ExtBut it s.heap h' → Q none { s with heap := h' }) : wpAny (model prog w) A (Builtin.SmallTypes.nextOrEnd (.ref it)) Q E s := by
  unfold Builtin.SmallTypes.nextOrEnd
  refine wpAny_bind (wpAny_attempt (D.done s _ _ st fun h' e x ⟨o, ho, hc⟩ => ?_))
  refine wpAny_bind (wpAny_isInstance (T := "StopIteration") (b := true) ⟨o, ho, hc⟩ isSubtype_stop ?_)
  exact wpAny_pure (hQ h' x)
theorem zipS_item {Q : Value → Shared → Prop} (S : ZipSep2 z TI TO i1 i2 fp1 fp2) (D1 : Draws prog w A i1 fp1 n P1 St1) (D2 : Draws prog w A i2 fp2 n P2 St2)
    (hz : IsZipS s.heap z TI TO .none) (hTI : IsTupOf2 s.heap TI (.ref i1) (.ref i2)) (hTO : IsTupOf2 s.heap TO a1 a2) (st1 : St1 i s.heap) (st2 : St2 i s.heap) (hi : i < n)
    (hQ : ∀ x1 x2 h' tk, P1 i x1 → P2 i x2 → IsZipS h' z TI TO (rawInt s.heap.objs.size) → IsTupOf2 h' TO x1 x2 → St1 (i + 1) h' → St2 (i + 1) h' → IsTupOf2 h' s.heap.objs.size x1 x2 → h'.objs.size = s.heap.objs.size + 1 →
      (∀ c o, c ≠ z → c ≠ TO → c ≠ i1 → c ≠ i2 → s.heap.get? c = some o → h'.get? c = some o) → Q (.ref s.heap.objs.size) { s with heap := h', toks := tk }) :
    wpAny (model prog w) A (Builtin.«zip.__next__» ⟨[.ref z], []⟩) (fun fin s' => ∃ v, fin = .done (.ret v) ∧ Q v s') E s := by
  obtain ⟨hp, g, d, tk, os⟩ := s
  show wpAny _ _ (field (.ref z) 2 >>= _) _ _ _
  refine wpAny_bind (wpAny_field (A := A) hz rfl (x := .bool true) rfl ?_)
  show wpAny _ _ (field (.ref z) 3 >>= _) _ _ _
  refine wpAny_bind (wpAny_field (A := A) hz rfl (x := .ref TI) rfl (wpAny_bind (wpAny_seqItems hTI rfl ?_)))
  show wpAny _ _ (Builtin.SmallTypes.ownedTupleIsFree (.ref z) >>= _) _ _ _
  unfold Builtin.SmallTypes.ownedTupleIsFree
  refine wpAny_bind (wpAny_bind (wpAny_field (A := A) hz rfl (x := .none) rfl (wpAny_pure ?_)))
  rw [if_pos rfl]
  refine wpAny_bind (wpAny_rule (wpAny_bind (wpAny_field (A := A) hz rfl (x := .ref TO) rfl ?_)))
  refine wpAny_bind (wpAny_setField_rec (A := A) hz (by simp) fun k0 z0 b0 => ?_)
  have z0 : IsZipS k0 z TI TO .ellipsis := z0
  have b0 : Heap.SameBut z hp k0 := b0
  simp only [List.zipIdx_cons, List.zipIdx_nil, List.forIn_cons, List.forIn_nil]
  refine wpAny_bind (wpAny_bind (wpAny_bind (wpAny_onRaise ?_)))
  show wpAny _ _ (Builtin.SmallTypes.nextOrEnd (.ref i1)) _ _ ⟨k0, g, d, tk, os⟩
  refine dr_item D1 hi (D1.over st1 b0 S.zf1) fun x1 k1 t1 e1 n1 b1 => ?_
  have b1 : Heap.SameBut i1 k0 k1 := b1
  have u1 : IsTupOf2 k1 TO a1 a2 := b1.extBut _ _ S.Ti1 (b0.extBut _ _ S.TOz hTO)
  refine wpAny_bind (wpAny_seqItems (s := ⟨k1, g, d, t1, os⟩) u1 rfl (wpAny_bind (updateSeq_IsTupOf2 (s := ⟨k1, g, d, t1, os⟩) u1 fun k2 v2 b2 => ?_)))
  have v2 : IsTupOf2 k2 TO x1 a2 := v2
  have b2 : Heap.SameBut TO k1 k2 := b2
  refine wpAny_bind (wpAny_letGo (A := A) (wpAny_pure (wpAny_bind (wpAny_bind (wpAny_onRaise ?_)))))
  show wpAny _ _ (Builtin.SmallTypes.nextOrEnd (.ref i2)) _ _ ⟨k2, g, d, t1, os⟩
  refine dr_item D2 hi (D2.over (D2.over (D2.over st2 b0 S.zf2) b1 S.sep1_2) b2 S.Tf2) fun x2 k3 t2 e2 n2 b3 => ?_
  have b3 : Heap.SameBut i2 k2 k3 := b3
  have u2 : IsTupOf2 k3 TO x1 a2 := b3.extBut _ _ S.Ti2 v2
  refine wpAny_bind (wpAny_seqItems (s := ⟨k3, g, d, t2, os⟩) u2 rfl (wpAny_bind (updateSeq_IsTupOf2 (s := ⟨k3, g, d, t2, os⟩) u2 fun k4 v4 b4 => ?_)))
  have v4 : IsTupOf2 k4 TO x1 x2 := v4
  have b4 : Heap.SameBut TO k3 k4 := b4
  refine wpAny_bind (wpAny_letGo (A := A) (wpAny_pure (wpAny_pure ?_)))
  refine wpAny_bind (wpAny_seqItems (s := ⟨k4, g, d, t2, os⟩) v4 rfl (wpAny_bind (wpAny_newTuple ?_)))
  have sz : k4.objs.size = hp.objs.size := by rw [b4.1, b3.1, b2.1, b1.1, b0.1]
  have z4 : IsZipS k4 z TI TO .ellipsis := b4.extBut _ _ S.TOz.symm (b3.extBut _ _ S.zi2 (b2.extBut _ _ S.TOz.symm (b1.extBut _ _ S.zi1 z0)))
  have kk : ∀ c o, c ≠ z → c ≠ TO → c ≠ i1 → c ≠ i2 → hp.get? c = some o → k4.get? c = some o := fun c o q1 q2 q3 q4 e => b4.extBut _ _ q2 (b3.extBut _ _ q4 (b2.extBut _ _ q2 (b1.extBut _ _ q3 (b0.extBut _ _ q1 e))))
  have j1 : St1 (i + 1) k4 := D1.over (D1.over (D1.over n1 b2 S.Tf1) b3 S.sep2_1) b4 S.Tf1
  have j2 : St2 (i + 1) k4 := D2.over n2 b4 S.Tf2
  have zl : z < k4.objs.size := Heap.lt_size z4
  show wpAny _ _ (Builtin.SmallTypes.ownedTupleHandOut (.ref z) (.ref k4.objs.size) >>= _) _ _ ⟨k4.push { cls := .type "tuple", data := .seq #[x1, x2] }, g, d, t2, os⟩
  unfold Builtin.SmallTypes.ownedTupleHandOut
  have z5 : IsZipS (k4.push { cls := .type "tuple", data := .seq #[x1, x2] }) z TI TO .ellipsis := Heap.get?_push_of_some _ z4
  refine wpAny_bind (wpAny_bind (wpAny_setField_rec (A := A) z5 (by simp) fun k6 z6 b6 => ?_))
  have z6 : IsZipS k6 z TI TO (rawInt k4.objs.size) := z6
  have b6 : Heap.SameBut z (k4.push { cls := .type "tuple", data := .seq #[x1, x2] }) k6 := b6
  refine wpAny_setField_rec (A := A) z6 (by simp) fun k7 z7 b7 => ?_
  have z7 : IsZipS k7 z TI TO (rawInt k4.objs.size) := z7
  have b7 : Heap.SameBut z k6 k7 := b7
  have up : ∀ c o, c ≠ z → k4.get? c = some o → k7.get? c = some o := fun c o q e => b7.extBut _ _ q (b6.extBut _ _ q (Heap.get?_push_of_some _ e))
  have T7 : IsTupOf2 k7 k4.objs.size x1 x2 := b7.extBut _ _ (Nat.ne_of_gt zl) (b6.extBut _ _ (Nat.ne_of_gt zl) (Heap.get?_push_size _ rfl))
  have s7 : k7.objs.size = k4.objs.size + 1 := by rw [b7.1, b6.1, Heap.size_push]
  rw [sz] at z7 T7 s7
  refine wpAny_pure ⟨_, rfl, ?_⟩
  show Q (.ref k4.objs.size) ⟨k7, g, d, t2, os⟩
  rw [sz]
  exact hQ x1 x2 k7 t2 e1 e2 z7 (up _ _ S.TOz v4) (D1.frame _ _ _ j1 fun b hb o e => up b o (fun q => S.zf1 (q ▸ hb)) e) (D2.frame _ _ _ j2 fun b hb o e => up b o (fun q => S.zf2 (q ▸ hb)) e) T7 s7 fun c o q1 q2 q3 q4 e => up c o q1 (kk c o q1 q2 q3 q4 e)
theorem stop_it {Q : Fin → Shared → Prop} (hh : A.handled = none) (hE : ∀ h' e, (∀ c o, s.heap.get? c = some o → h'.get? c = some o) → (∃ o, h'.get? e = some o ∧ o.cls = .type "StopIteration") → E (.ref e) { s with heap := h' }) :
    wpAny (model prog w) A (newExc (.type "StopIteration") [] >>= fun e => raiseNew e) Q E s := by
  refine wpAny_bind ?_
  simp only [newExc, newTuple]
  refine wpAny_bind (wpAny_newObj_type (A := A) ?_ (by size_fits))
  refine wpAny_bind (m := firstArgMember _ _) (wpAny_of_eq (A := A) (a := Value.none) (by first | rfl | (simp only [firstArgMember]; rfl)) ?_)
  refine wpAny_newObj_type (A := A) ?_ (by size_fits)
  simp only [raiseNew]
  refine wpAny_bind (wpAny_handled ?_)
  rw [hh]
  refine wpAny_bind (wpAny_pure (wpAny_throw (hE _ _ (fun c o e => Heap.get?_push_of_some _ (Heap.get?_push_of_some _ e)) ⟨_, Heap.get?_push_size _ rfl, rfl⟩)))
theorem zipS_end {Q : Fin → Shared → Prop} (hh : A.handled = none) (S : ZipSep2 z TI TO i1 i2 fp1 fp2) (D1 : Draws prog w A i1 fp1 n P1 St1) (D2 : Draws prog w A i2 fp2 n P2 St2)
    (hz : IsZipS s.heap z TI TO .none) (hTI : IsTupOf2 s.heap TI (.ref i1) (.ref i2)) (hTO : IsTupOf2 s.heap TO a1 a2) (st1 : St1 n s.heap) (st2 : St2 n s.heap)
    (hE : ∀ h' e, (∀ c o, c ≠ z → c ≠ TO → c ≠ i1 → c ≠ i2 → s.heap.get? c = some o → h'.get? c = some o) → (∃ o, h'.get? e = some o ∧ o.cls = .type "StopIteration") → E (.ref e) { s with heap := h' }) :
    wpAny (model prog w) A (Builtin.«zip.__next__» ⟨[.ref z], []⟩) Q E s := by
  obtain ⟨hp, g, d, tk, os⟩ := s
  show wpAny _ _ (field (.ref z) 2 >>= _) _ _ _
  refine wpAny_bind (wpAny_field (A := A) hz rfl (x := .bool true) rfl ?_)
  show wpAny _ _ (field (.ref z) 3 >>= _) _ _ _
  refine wpAny_bind (wpAny_field (A := A) hz rfl (x := .ref TI) rfl (wpAny_bind (wpAny_seqItems hTI rfl ?_)))
  show wpAny _ _ (Builtin.SmallTypes.ownedTupleIsFree (.ref z) >>= _) _ _ _
  unfold Builtin.SmallTypes.ownedTupleIsFree
  refine wpAny_bind (wpAny_bind (wpAny_field (A := A) hz rfl (x := .none) rfl (wpAny_pure ?_)))
  rw [if_pos rfl]
  refine wpAny_bind (wpAny_rule (wpAny_bind (wpAny_field (A := A) hz rfl (x := .ref TO) rfl ?_)))
  refine wpAny_bind (wpAny_setField_rec (A := A) hz (by simp) fun k0 z0 b0 => ?_)
  have z0 : IsZipS k0 z TI TO .ellipsis := z0
  have b0 : Heap.SameBut z hp k0 := b0
  simp only [List.zipIdx_cons, List.zipIdx_nil, List.forIn_cons, List.forIn_nil]
  refine wpAny_bind (wpAny_bind (wpAny_bind (wpAny_onRaise ?_)))
  show wpAny _ _ (Builtin.SmallTypes.nextOrEnd (.ref i1)) _ _ ⟨k0, g, d, tk, os⟩
  refine dr_end D1 (D1.over st1 b0 S.zf1) fun k1 x1 => ?_
  have x1 : Heap.ExtBut i1 k0 k1 := x1
  have z1 : IsZipS k1 z TI TO .ellipsis := x1 _ _ S.zi1 z0
  refine wpAny_bind (wpAny_setField_rec (A := A) (s := ⟨k1, g, d, tk, os⟩) z1 (by simp) fun k2 z2 b2 => ?_)
  have b2 : Heap.SameBut z k1 k2 := b2
  refine wpAny_bind ?_
  wp_delta
  rw [if_neg (by decide)]
  simp only [List.drop_succ_cons, List.drop_zero, List.zipIdx_cons, List.zipIdx_nil, List.forIn_cons, List.forIn_nil]
  refine wpAny_bind (wpAny_bind (wpAny_bind ?_))
  have b2' : Heap.SameBut z k1 k2 := b2
  have st2' : St2 n k2 := D2.frame n hp k2 st2 fun b hb o e => by
    have hz' : b ≠ z := fun q => S.zf2 (q ▸ hb)
    have hi' : b ≠ i1 := fun q => S.sep1_2 (q ▸ hb)
    exact b2'.extBut _ _ hz' (x1 _ _ hi' (b0.extBut _ _ hz' e))
  refine dr_end (s := ⟨k2, g, d, tk, os⟩) D2 st2' fun k3 x3 => ?_
  have x3 : Heap.ExtBut i2 k2 k3 := x3
  rw [if_neg (by decide)]
  refine wpAny_pure (wpAny_pure ?_)
  refine wpAny_bind (wpAny_rule ?_)
  refine stop_it (s := ⟨k3, g, d, tk, os⟩) hh fun h' e k4 he => ?_
  exact hE h' e (fun c o q1 q2 q3 q4 q => k4 _ _ (x3 _ _ q4 (b2'.extBut _ _ q1 (x1 _ _ q3 (b0.extBut _ _ q1 q))))) he
end
end Br
set_option Elab.async false
set_option linter.all false
set_option maxRecDepth 100000
set_option maxHeartbeats 4000000
namespace Br
open PySem PySem.Spec PyProof.Rows
/-! ### zip(a text, a list, strict=True) in a comprehension -/
section
variable {prog : Program} {w : World} {A : Around} {E : Value → Shared → Prop} {s : Shared} {z TI TO i1 i2 : Addr} {fp1 fp2 : List Addr} {n i : Nat} {P1 P2 : Nat → Value → Prop} {St1 St2 : Nat → Heap → Prop} {a1 a2 : Value}
theorem py_zipS_item {Q : Option Value → Shared → Prop} (S : ZipSep2 z TI TO i1 i2 fp1 fp2) (D1 : Draws prog w A.in1 i1 fp1 n P1 St1) (D2 : Draws prog w A.in1 i2 fp2 n P2 St2)
    (hz : IsZipS s.heap z TI TO .none) (hTI : IsTupOf2 s.heap TI (.ref i1) (.ref i2)) (hTO : IsTupOf2 s.heap TO a1 a2) (st1 : St1 i s.heap) (st2 : St2 i s.heap) (hi : i < n)
    (hQ : ∀ x1 x2 h' tk, P1 i x1 → P2 i x2 → IsZipS h' z TI TO (rawInt s.heap.objs.size) → IsTupOf2 h' TO x1 x2 → St1 (i + 1) h' → St2 (i + 1) h' → IsTupOf2 h' s.heap.objs.size x1 x2 → h'.objs.size = s.heap.objs.size + 1 →
      (∀ c o, c ≠ z → c ≠ TO → c ≠ i1 → c ≠ i2 → s.heap.get? c = some o → h'.get? c = some o) → Q (some (.ref s.heap.objs.size)) { s with heap := h', toks := tk }) : wpAny (model prog w) A (pyNext (.ref z)) Q E s := by
  have hT : s.TypeIs (.ref z) "zip" := ⟨_, hz, rfl⟩
  unfold pyNext
  refine wpAny_bind (wpAny_attempt (wpAny_callSpecial?_slot (A := A) (name := Str.ofString "__next__") hT F.slot_zip_next (wpAny_call_entry F.slot_zip_next hT F.entry_zip_next ?_ (F.args_zip_next_1 _))))
  exact zipS_item S D1 D2 hz hTI hTO st1 st2 hi fun x1 x2 h' tk y1 y2 b1 b2 d1 d2 b5 b6 b7 => wpAny_pure (hQ x1 x2 h' tk y1 y2 b1 b2 d1 d2 b5 b6 b7)
theorem py_zipS_end {Q : Option Value → Shared → Prop} (hh : A.handled = none) (S : ZipSep2 z TI TO i1 i2 fp1 fp2) (D1 : Draws prog w A.in1 i1 fp1 n P1 St1) (D2 : Draws prog w A.in1 i2 fp2 n P2 St2)
    (hz : IsZipS s.heap z TI TO .none) (hTI : IsTupOf2 s.heap TI (.ref i1) (.ref i2)) (hTO : IsTupOf2 s.heap TO a1 a2) (st1 : St1 n s.heap) (st2 : St2 n s.heap)
    (hQ : ∀ h', (∀ c o, c ≠ z → c ≠ TO → c ≠ i1 → c ≠ i2 → s.heap.get? c = some o → h'.get? c = some o) → Q none { s with heap := h' }) : wpAny (model prog w) A (pyNext (.ref z)) Q E s := by
  have hT : s.TypeIs (.ref z) "zip" := ⟨_, hz, rfl⟩
  unfold pyNext
  refine wpAny_bind (wpAny_attempt (wpAny_callSpecial?_slot (A := A) (name := Str.ofString "__next__") hT F.slot_zip_next (wpAny_call_entry F.slot_zip_next hT F.entry_zip_next ?_ (F.args_zip_next_1 _))))
  refine zipS_end (A := A.in1) hh S D1 D2 hz hTI hTO st1 st2 fun h' e hk ⟨o, ho, hc⟩ => ?_
  refine wpAny_bind (wpAny_isInstance (A := A) (T := "StopIteration") (b := true) ⟨o, ho, hc⟩ isSubtype_stop ?_)
  exact wpAny_pure (hQ h' hk)
theorem go_zipS {elts : List Expr} {x1 : Nat} {pos : Pos} {T : Addr} {Q : Unit → Shared → Prop} (hz : IsZipS s.heap z TI TO (rawInt T))
    (hQ : ∀ h', IsZipS h' z TI TO .none → Heap.SameBut z s.heap h' → Q () { s with heap := h' }) : wpAny (model prog w) A (letOwnedTupleGo (.Tuple elts x1 pos) (.ref z) (.ref T)) Q E s := by
  unfold letOwnedTupleGo
  refine wpAny_bind (wpAny_load hz ?_)
  show wpAny _ _ (if (["enumerate", "zip", "dict_itemiterator", "dict_reverseitemiterator", "odict_iterator", "itertools.zip_longest", "itertools.pairwise"].contains "zip" && (#[rawInt T, .bool false, .bool true, .ref TI, .ref TO] : Array Value)[0]? == some (rawInt T)) = true then _ else _) Q E s
  rw [if_pos (by simp)]
  refine wpAny_bind (wpAny_rule ?_)
  show wpAny _ _ (setField (.ref z) 0 .none) Q E s
  exact wpAny_setField_rec (A := A) hz (by simp) fun h' q r => hQ h' q r
theorem it_zipS {f0 : Value} {Q : Value → Shared → Prop} (hz : IsZipS s.heap z TI TO f0) (h : Q (.ref z) s) : wpAny (model prog w) A (pyIter (.ref z)) Q E s := by
  have hT : s.TypeIs (.ref z) "zip" := ⟨_, hz, rfl⟩
  refine wpAny_pyIter_slot (A := A) hT F.slot_zip_iter (wpAny_call_entry F.slot_zip_iter hT F.entry_zip_iter ?_ (F.args_zip_iter_1 _))
  show wpAny _ _ (ret (.ref z)) _ _ s
  exact wpAny_pure ⟨_, rfl, "zip", _, hT, F.slot_zip_next.lookup, h⟩
end
theorem tc_zipS (a b v : Value) : checkTypeCall "zip" ⟨[a, b], [(Str.ofString "strict", v)]⟩ = pure () := by kernel_rfl
theorem nc_zipS (a b v : Value) : checkBuiltinCall "zip.__new__" ⟨[.type "zip", a, b], [(Str.ofString "strict", v)]⟩ = pure () := by kernel_rfl
theorem oi_zipS (obj a b v : Value) : argsOk "object.__init__" ⟨[obj, a, b], [(Str.ofString "strict", v)]⟩ := by unfold argsOk; kernel_rfl
abbrev gzS2 (h : Heap) (o1 o2 : Obj) : Heap := (gzO2 h o1 o2).push { cls := .type "zip", data := .fields #[.none, .bool false, .bool true, .ref ((h.push o1).push o2).objs.size, .ref (gzT2 h o1 o2).objs.size] }
theorem meets_zipS {v1 v2 : Value} {o1 o2 : Obj} {H1 H2 : Heap → Prop} (B1 : Begins v1 o1 H1) (B2 : Begins v2 o2 H2) :
    Meets (Builtin.«zip.__new__» ⟨[.type "zip", v1, v2], [(Str.ofString "strict", .bool true)]⟩) (fun _ R s => (H1 s.heap ∧ H2 s.heap) ∧ R (.ok (.ret (.ref (gzO2 s.heap o1 o2).objs.size))) { s with heap := gzS2 s.heap o1 o2 }) :=
  .of_wp fun prog w A R s h => by
    obtain ⟨hp, g, d, tk, os⟩ := s
    obtain ⟨⟨h1, h2⟩, h⟩ := h
    have hsub := sub_zip
    have e2 : (Str.ofString "strict" != ("strict" : Str)) = false := by decide +kernel
    have q1 : ∀ {A' : Around} {E : Value → Shared → Prop} {Q : Value → Shared → Prop}, Q (.ref hp.objs.size) ⟨(hp.push o1), g, d, tk, os⟩ → wpAny (model prog w) A' (pyIter v1) Q E ⟨hp, g, d, tk, os⟩ := fun q => B1.iter prog w _ _ ⟨hp, g, d, tk, os⟩ _ h1 q
    have q2 : ∀ {A' : Around} {E : Value → Shared → Prop} {Q : Value → Shared → Prop}, Q (.ref (hp.push o1).objs.size) ⟨((hp.push o1).push o2), g, d, tk, os⟩ → wpAny (model prog w) A' (pyIter v2) Q E ⟨(hp.push o1), g, d, tk, os⟩ :=
      fun q => B2.iter prog w _ _ ⟨(hp.push o1), g, d, tk, os⟩ _ (B2.keeps _ _ h2 fun b o' e => Heap.get?_push_of_some _ e) q
    wp_walk using q1, q2
    exact ⟨_, rfl, h⟩
end Br
set_option Elab.async false
set_option linter.all false
set_option maxRecDepth 100000
set_option maxHeartbeats 4000000
namespace Br
open PySem PySem.Spec PyProof.Rows L2
theorem zipS_begins {prog : Program} {w : World} {A : Around} {E : Value → Shared → Prop} {s : Shared} {v1 v2 : Value} {o1 o2 : Obj} {H1 H2 : Heap → Prop} {Q : Value → Shared → Prop} (B1 : Begins v1 o1 H1) (B2 : Begins v2 o2 H2) (h1 : H1 s.heap) (h2 : H2 s.heap)
    (h : ∀ h', IsZipS h' (s.heap.objs.size + 4) (s.heap.objs.size + 2) (s.heap.objs.size + 3) .none → IsTupOf2 h' (s.heap.objs.size + 2) (.ref s.heap.objs.size) (.ref (s.heap.objs.size + 1)) → IsTupOf2 h' (s.heap.objs.size + 3) .none .none →
      h'.get? s.heap.objs.size = some o1 → h'.get? (s.heap.objs.size + 1) = some o2 → (∀ c o, s.heap.get? c = some o → h'.get? c = some o) → Q (.ref (s.heap.objs.size + 4)) { s with heap := h' }) :
    wpAny (model prog w) A (call (.type "zip") [v1, v2] [(Str.ofString "strict", .bool true)]) Q E s := by
  refine callType_newKw F.called_zip (by decide) (tc_zipS _ _ _) (nc_zipS _ _ _) (fun obj => oi_zipS obj _ _ _) F.entry_zip_new (meets_zipS B1 B2) ⟨⟨h1, h2⟩, ?_⟩
  have z1 : (s.heap.push o1).objs.size = s.heap.objs.size + 1 := Heap.size_push ..
  have z2 : ((s.heap.push o1).push o2).objs.size = s.heap.objs.size + 2 := by rw [Heap.size_push, z1]
  have z3 : (gzT2 s.heap o1 o2).objs.size = s.heap.objs.size + 3 := by rw [Heap.size_push, z2]
  have z4 : (gzO2 s.heap o1 o2).objs.size = s.heap.objs.size + 4 := by rw [Heap.size_push, z3]
  have gz : (gzS2 s.heap o1 o2).get? (gzO2 s.heap o1 o2).objs.size = some { cls := .type "zip", data := .fields #[.none, .bool false, .bool true, .ref ((s.heap.push o1).push o2).objs.size, .ref (gzT2 s.heap o1 o2).objs.size] } := Heap.get?_push_size _ rfl
  have go : (gzS2 s.heap o1 o2).get? (gzT2 s.heap o1 o2).objs.size = some { cls := .type "tuple", data := .seq #[.none, .none] } := Heap.get?_push_of_some _ (Heap.get?_push_size (gzT2 s.heap o1 o2) rfl)
  have gt : (gzS2 s.heap o1 o2).get? ((s.heap.push o1).push o2).objs.size = some { cls := .type "tuple", data := .seq #[.ref s.heap.objs.size, .ref (s.heap.push o1).objs.size] } := Heap.get?_push_of_some _ (Heap.get?_push_of_some _ (Heap.get?_push_size ((s.heap.push o1).push o2) rfl))
  have g1 : (gzS2 s.heap o1 o2).get? s.heap.objs.size = some o1 := Heap.get?_push_of_some _ (Heap.get?_push_of_some _ (Heap.get?_push_of_some _ (Heap.get?_push_of_some _ (Heap.get?_push_size s.heap B1.free))))
  have g2 : (gzS2 s.heap o1 o2).get? (s.heap.push o1).objs.size = some o2 := Heap.get?_push_of_some _ (Heap.get?_push_of_some _ (Heap.get?_push_of_some _ (Heap.get?_push_size (s.heap.push o1) B2.free)))
  rw [z4, z3, z2] at gz
  rw [z3] at go
  rw [z2, z1] at gt
  rw [z1] at g2
  show _ ∧ _
  rw [z4]
  exact ⟨⟨_, gz, rfl⟩, h _ gz gt go g1 g2 fun c o e => Heap.get?_push_of_some _ (Heap.get?_push_of_some _ (Heap.get?_push_of_some _ (Heap.get?_push_of_some _ (Heap.get?_push_of_some _ e))))⟩
/-- the turns of zip(x, the list at a, strict=True), both of one length -/
def ItS (K : PySem.W.Frag) (x : Str) (a : Addr) : It :=
  ⟨fun i H => ∃ (ys : List V), SqL K H a ys ∧ ys.length = x.cps.size ∧ i < x.cps.size,
    fun i H v H' => ∃ T c y, v = .ref T ∧ H T = none ∧ H' = upd H T (.tup [.str ⟨#[c]⟩, y]) ∧ x.cps[i]? = some c ∧ ∀ ys, SqL K H a ys → ys[i]? = some y,
    fun i H => ∃ ys : List V, SqL K H a ys ∧ ys.length = x.cps.size ∧ i = x.cps.size⟩
theorem turn_zipS {P : Program} {w : World} {K : PySem.W.Frag} {elts : List Expr} {kk : Nat} {tpos : Pos} {N : Nat} {a : Addr} {x : Str} {t : Tok} (ha : a < N) :
    Turn P w K (.Tuple elts kk tpos) (ItS K x a) [N + 4, N + 2, N + 3, N, N + 1] (N + 4) (fun i h => IsZipS h (N + 4) (N + 2) (N + 3) .none ∧ IsTupOf2 h (N + 2) (.ref N) (.ref (N + 1)) ∧ (∃ u v, IsTupOf2 h (N + 3) u v) ∧ h.IsStrIter N (strIterType x) x t i ∧ h.IsListIter (N + 1) a i) where
  mem := by simp
  obj := fun i h st c hc => by
    obtain ⟨hz, hTI, ⟨u, v, hTO⟩, h1, h2⟩ := st
    have e' : c = N + 4 ∨ c = N + 2 ∨ c = N + 3 ∨ c = N ∨ c = N + 1 := by simpa using hc
    rcases e' with q | q | q | q | q
    · rw [q]; exact ⟨_, hz, fun v q => nomatch q⟩
    · rw [q]; exact ⟨_, hTI, fun v q => nomatch q⟩
    · rw [q]; exact ⟨_, hTO, fun v q => nomatch q⟩
    · rw [q]
      obtain ⟨o1, e1, _, d1⟩ := h1
      exact ⟨o1, e1, fun v q => by rw [d1] at q; cases q⟩
    · rw [q]
      obtain ⟨o2, e2, _, d2⟩ := h2
      exact ⟨o2, e2, fun v q => by rw [d2] at q; cases q⟩
  keep := fun i h h' st k => by
    obtain ⟨hz, hTI, ⟨u, v, hTO⟩, h1, h2⟩ := st
    exact ⟨k (N + 4) (by simp) _ hz, k (N + 2) (by simp) _ hTI, ⟨u, v, k (N + 3) (by simp) _ hTO⟩, (let ⟨o, e, r⟩ := h1; ⟨o, k N (by simp) o e, r⟩), h2.at fun o q => k (N + 1) (by simp) o q⟩
  item := by
    intro X hP hw hK hc i pins s σ H E I hf st hg
    subst hP hw hK
    obtain ⟨hz, hTI, ⟨u0, v0, hTO⟩, h1, h2⟩ := st
    obtain ⟨ys, hq, hlen, hi⟩ := hg
    obtain ⟨its, rv, p, _⟩ := I.list hq
    have hil : its.toArray.size = x.cps.size := by rw [List.size_toArray, ← rv.length]; exact hlen
    have S := zip_sep2 (N := N) (fp1 := []) (fp2 := [a]) (fun b hb => by cases hb) (fun b hb => by rw [List.mem_singleton.mp hb]; exact ha)
    have D1 := Draws.text (prog := X.prog) (w := X.w) (A := X.A.in1) (I.ok.hd hc) N x t
    have D2 := Draws.list (prog := X.prog) (w := X.w) (A := X.A.in1) (I.ok.hd hc) (N + 1) a (Nat.ne_of_lt (Nat.lt_succ_of_lt ha)) its.toArray
    rw [hil] at D2
    refine py_zipS_item S D1 D2 hz hTI hTO h1 ⟨h2, p.isList⟩ hi fun x1 x2 h' tk p1 p2 z' TO' s1 s2 hT hsz hk => ?_
    refine ⟨_, rfl, go_zipS (s := { s with heap := h', toks := tk }) z' fun h'' z'' sb => ?_⟩
    obtain ⟨c, tk2, hc2, rfl⟩ := p1
    have hzl : N + 4 < s.heap.objs.size := Heap.lt_size hz
    have hT2 : h''.get? s.heap.objs.size = some { cls := .type "tuple", data := .seq #[.str ⟨#[c]⟩ tk2, x2] } := (sb.2 _ (Nat.ne_of_gt hzl)).trans hT
    have hx2 : its[i]? = some x2 := by simpa using p2
    obtain ⟨y, hy, ry⟩ : ∃ y, ys[i]? = some y ∧ RelV y x2 := by
      have hl : i < ys.length := by omega
      obtain ⟨u, hu, ru⟩ := rv.get (List.getElem?_eq_getElem hl)
      rw [hx2] at hu
      cases hu
      exact ⟨_, List.getElem?_eq_getElem hl, ru⟩
    have new : ObjOk X.prog X.w (upd H s.heap.objs.size (.tup [.str ⟨#[c]⟩, y])) h'' s.heap.objs.size (.tup [.str ⟨#[c]⟩, y]) :=
      ⟨by show 2 ≤ sizeLine; decide, [.str ⟨#[c]⟩ tk2, x2], .cons ⟨tk2, rfl⟩ (.cons ry .nil), ⟨_, hT2, rfl, _, rfl⟩⟩
    have I1 : Inv X pins σ (upd H s.heap.objs.size (.tup [.str ⟨#[c]⟩, y])) { s with heap := h'', toks := tk } :=
      I.turnedNew (t' := tk) (ch := [N + 4, N + 2, N + 3, N, N + 1]) (fun c o hb q => (sb.2 c (fun q' => hb (by simp [q']))).trans (hk c o (fun q' => hb (by simp [q'])) (fun q' => hb (by simp [q'])) (fun q' => hb (by simp [q'])) (fun q' => hb (by simp [q'])) q)) hf (Nat.le_refl _) new
    have n2 : (N + 2 : Nat) ≠ N + 4 := by omega
    have n3 : (N + 3 : Nat) ≠ N + 4 := by omega
    have n0 : (N : Nat) ≠ N + 4 := by omega
    have n1 : (N + 1 : Nat) ≠ N + 4 := by omega
    refine ⟨.ref s.heap.objs.size, _, I1, rfl, ⟨_, c, y, rfl, I.hok.fresh (Nat.le_refl _), rfl, hc2, fun l hl => by rw [I.list_inj hl hq]; exact hy⟩, ⟨z'', ?_, ⟨.str ⟨#[c]⟩ tk2, x2, ?_⟩, ?_, ?_⟩, fun c hcm => ?_⟩
    · exact (sb.2 _ n2).trans (hk _ _ n2 S.TITO S.TIi1 S.TIi2 hTI)
    · exact (sb.2 _ n3).trans TO'
    · exact (let ⟨o, e, r⟩ := s1; ⟨o, (sb.2 _ n0).trans e, r⟩)
    · exact s2.1.at fun o q => (sb.2 _ n1).trans q
    · have hlt : c < s.heap.objs.size := by
        have e' : c = N + 4 ∨ c = N + 2 ∨ c = N + 3 ∨ c = N ∨ c = N + 1 := by simpa using hcm
        have hle : (c : Nat) ≤ N + 4 := by
          rcases e' with q | q | q | q | q <;> (rw [q]; first | exact Nat.le_refl _ | exact Nat.le_add_right _ _ | exact Nat.add_le_add_left (by decide) _)
        exact Nat.lt_of_le_of_lt hle hzl
      rw [upd_ne (Nat.ne_of_lt hlt)]
      exact (hf c hcm).1
  done := by
    intro X hP hw hK hc i pins s σ H E I hf st hg
    subst hP hw hK
    obtain ⟨hz, hTI, ⟨u0, v0, hTO⟩, h1, h2⟩ := st
    obtain ⟨ys, hq, hlen, rfl⟩ := hg
    obtain ⟨its, rv, p, _⟩ := I.list hq
    have hil : its.toArray.size = x.cps.size := by rw [List.size_toArray, ← rv.length]; exact hlen
    have S := zip_sep2 (N := N) (fp1 := []) (fp2 := [a]) (fun b hb => by cases hb) (fun b hb => by rw [List.mem_singleton.mp hb]; exact ha)
    have D1 := Draws.text (prog := X.prog) (w := X.w) (A := X.A.in1) (I.ok.hd hc) N x t
    have D2 := Draws.list (prog := X.prog) (w := X.w) (A := X.A.in1) (I.ok.hd hc) (N + 1) a (Nat.ne_of_lt (Nat.lt_succ_of_lt ha)) its.toArray
    rw [hil] at D2
    exact py_zipS_end (I.ok.hd hc) S D1 D2 hz hTI hTO h1 ⟨h2, p.isList⟩ fun h' hk => ⟨rfl, I.turnedL (t' := s.toks) (ch := [N + 4, N + 2, N + 3, N, N + 1]) (fun c o hb q =>
      hk c o (fun q' => hb (by simp [q'])) (fun q' => hb (by simp [q'])) (fun q' => hb (by simp [q'])) (fun q' => hb (by simp [q'])) q) hf⟩
  self := fun A i s Q E st h => it_zipS st.1 h
theorem callWith_kwT {M : Model} {A : Around} {E : Value → Shared → Prop} {s : Shared} {pos : Pos} {T : String} {args : List (Bool × Sem Value)} {kws : List (Option Str × Sem Value)} {Q : Value → Shared → Prop}
    (h : wpAny M A (evalArgs (.type T) true args kws) (fun a s1 => wpAny M A (call (.type T) a.pos a.kw) Q E s1) E s) (hpl : args.any (·.1) = false) (hkw : kws.any (·.1.isNone) = false) : wpAny M A (callWith pos (.type T) [] args kws) Q E s := by
  unfold callWith
  refine wpAny_bind (wpAny_holding (wpAny_mono h (fun a s1 h1 => wpAny_bind (wpAny_standAt (pos := pos) ?_)) fun _ _ x => x))
  simp only [hpl, hkw, Bool.or_false]
  refine wpAny_bind (wpAny_pure ?_)
  exact wpAny_bind (wpAny_mono h1 (fun r s2 hr => wpAny_bind (wpAny_holding (wpAny_point (M := M) (wpAny_pure hr)))) fun _ _ x => x)
/-- the pairs of a text's signs and a list's items -/
def zipSD (x : Str) (ys : List D) : List D := (x.cps.toList.zip ys).map fun p => D.tup [D.str ⟨#[p.1]⟩, p.2]
theorem wk_zipS {K : PySem.W.Frag} {μ : Nat → Addr} {N : Nat} {H : Hp} {x : Str} {ds : List D} {ys : List V} {a : Addr} (q : DVs K μ N H ds ys) (s : SqF K H a ys) (hl : ds.length = x.cps.size) : WkR K μ N H (.items (zipSD x ds)) (ItS K x a) := by
  intro μ' N' H' l
  have sl : SqL K H' a ys := (l.kp.sqF s).seq
  have q' := q.lift l
  have hy : ys.length = x.cps.size := by rw [q.length]; exact hl
  have hz : (zipSD x ds).length = x.cps.size := by simp [zipSD, hl]
  refine ⟨⟨ys, sl, hy, hz⟩, fun i d hd => ?_⟩
  have hi : i < x.cps.size := by
    have := (List.getElem?_eq_some_iff.mp hd).1
    rw [hz] at this; exact this
  refine ⟨⟨ys, sl, hy, hi⟩, fun M v H2 r e ⟨T, c, y, ev, hn, eH, hc, hyy⟩ => ?_⟩
  subst ev; subst eH; subst e
  have hyi := hyy ys sl
  obtain ⟨d2, hd2, dv⟩ := q'.get' hyi
  have hdd : d = .tup [.str ⟨#[c]⟩, d2] := by
    unfold zipSD at hd
    rw [List.getElem?_map] at hd
    have e1 : (x.cps.toList.zip ds)[i]? = some (c, d2) := by
      rw [List.getElem?_zip_eq_some]
      exact ⟨by simpa using hc, hd2⟩
    rw [e1] at hd
    cases hd; rfl
  subst hdd
  exact ⟨r.fresh hn, Lift.fresh hn, dv_tup (SqT.of upd_same) (DVs.cons (dv_str) (DVs.cons (dv.lift (Lift.fresh hn)) DVs.nil))⟩
def wZipS (g : FA) : En → Mem → R Wk := fun ρ M => (g ρ M).bind fun ds M1 => match ds with
  | [.str x, .lst ys] => if ys.length = x.cps.size then .ok (.items (zipSD x ys)) M1 else .no
  | _ => .no
theorem mi_zipS {X : Cx} {W : WX} {e1 e2 : Expr} {elts : List Expr} {kk j : Nat} {p p3 kp pos tpos : Pos} {g : FA} (hg : Gl X "zip") (hm : X.mg "zip" = none) (ha : MA X W [e1, e2] g)
    (hs : starEach [e1, e2] X.env = (false, eval e1 X.env) :: starEach [e2] X.env := by rfl) (hpl : (backTo pos (starEach [e1, e2] X.env)).any (·.1) = false := by rfl)
    (hall : (backToKw pos (keywordEach [⟨some "strict", .Constant (.bool true) j p3, kp⟩] X.env)).all (·.1.isSome) = true := by rfl) (hnone : (backToKw pos (keywordEach [⟨some "strict", .Constant (.bool true) j p3, kp⟩] X.env)).any (·.1.isNone) = false := by rfl)
    (hks : (backToKw pos (keywordEach [⟨some "strict", .Constant (.bool true) j p3, kp⟩] X.env)).filterMap (·.1) = [(Str.ofString "strict")] := by rfl) :
    MI X W (.Tuple elts kk tpos) (.Call (.Name "zip" p) [e1, e2] [⟨some "strict", .Constant (.bool true) j p3, kp⟩] pos) (wZipS g) := by
  refine ⟨fun pins s σ H R I h => ?_⟩
  have h1 := tM.seq (rel := DVs X.K) h
  have hk : PK X [⟨some "strict", .Constant (.bool true) j p3, kp⟩] (tCons (L2.tC (.bl true)) tNil) := pk_cons pe_bl pk_nil
  refine wpAny_Call_Name_kw (ld_blt I hg hm PyProof.Rows.boot_zip ?_)
  refine callWith_kwT ?_ hpl hnone
  refine evalArgs_kw2 hall (thn (ha.run pos pins s σ H _ I h1) fun us s1 ⟨vs, H1, I1, r1, μ, M, ρ, ds, rl, ev, dq, a⟩ => ?_) hs
  split at a
  · rename_i x ys
    split at a
    · rename_i hl
      obtain ⟨v1, t1, ev1, q1, q2⟩ := dq.inv_cons
      obtain ⟨v2, t2, ev2, q3, q4⟩ := q2.inv_cons
      have e3 := q4.inv_nil
      subst ev1; subst ev2; subst e3
      have ex := str_dv q1
      subst ex
      obtain ⟨l, xs, el, sf, lq⟩ := lst_dv q3
      subst el
      obtain ⟨u1, u2, rfl, ⟨tk, rfl⟩, ru⟩ := vals2 r1
      cases ru
      refine thn (hk.run pos pins s1 σ H1 (fun zs H2 => zs = [.bl true] ∧ H2 = H1) I1 ⟨rfl, rfl⟩) fun ws s2 ⟨zs, H2, I2, r2, ez, eH⟩ => ?_
      subst ez; subst eH
      obtain ⟨w1, rfl, rw1⟩ := vals1 r2
      cases rw1
      rw [hks]
      have hq : SqL X.K H2 l xs := sf.seq
      obtain ⟨its, rv, p1, _⟩ := I2.list hq
      refine zipS_begins (begins_text x tk) (begins_list l its.toArray) True.intro p1.isList fun h' hz hTI hTO g1 g2 hk2 => it_zipS hz ?_
      have I3 : Inv X pins σ H2 { s2 with heap := h' } := I2.kept (t' := s2.toks) hk2
      refine ⟨s2.heap.objs.size + 4, [s2.heap.objs.size + 4, s2.heap.objs.size + 2, s2.heap.objs.size + 3, s2.heap.objs.size, s2.heap.objs.size + 1], _, ItS X.K x l, H2, rfl, I3, turn_zipS (N := s2.heap.objs.size) (t := tk) p1.lt, ⟨hz, hTI, ⟨_, _, hTO⟩, ⟨_, g1, rfl, rfl⟩, ⟨_, g2, rfl, rfl⟩⟩, fun c hcm => ?_, ?_⟩
      · have e' : c = s2.heap.objs.size + 4 ∨ c = s2.heap.objs.size + 2 ∨ c = s2.heap.objs.size + 3 ∨ c = s2.heap.objs.size ∨ c = s2.heap.objs.size + 1 := by simpa using hcm
        have hle : s2.heap.objs.size ≤ c := by
          rcases e' with z | z | z | z | z <;> (rw [z]; first | exact Nat.le_refl _ | exact Nat.le_add_right _ _)
        exact I2.fpOk hle (I2.hok.fresh hle)
      · exact a μ H2 _ (Lift.refl ..) rl (wk_zipS lq sf hl)
    · exact a.elim
  · exact a.elim
end Br
set_option Elab.async false
set_option linter.all false
set_option maxRecDepth 100000
set_option maxHeartbeats 4000000
namespace Br
open PySem PySem.Spec PyProof.Rows L2
section
variable {X : Cx} {W : WX} {st : Stmt} {t : TS}
/-- a statement behind which a new list is locked for good -/
theorem PS.lock (h : PS X st t) : PS X st (fun D σ H => t { D with nx := fun σ' H' => ∃ a xs, H' a = some (.lst xs) ∧ ∀ o, D.nx σ' (upd H' a (.frz o (.lst xs))) } σ H) := by
  refine ⟨fun pins s σ H D I hw => thn (h.run pins s σ H _ I hw) fun f s1 q => ?_⟩
  cases f with
  | next =>
    obtain ⟨σ', H', I1, a, xs, e, k⟩ := q
    obtain ⟨o, J⟩ := Inv.lock I1 e
    exact ⟨σ', _, J, k o⟩
  | brk => exact q
  | cont => exact q
  | ret v => exact q
end
section
variable {X : Cx} {W : WX} {elt tg iter : Expr} {ifs : List Expr} {scope : Scope} {own : List (Str × Nat)} {pos spos py : Pos} {fw : En → Mem → R Wk} {gg : FG} {tt : FT} {te : FE} {g : TG} {i : Nat} {y : Str}
/-- name = [..], whose list nobody writes -/
theorem ms_lcV (i : Nat) (hc : X.calm = true) (hN : X.N.Nodup) (hy : X.N[i]? = some y) (hyl : X.env.scope.names.lookup y = some .local) (hsw : swapsWith (.ListComp elt [⟨tg, iter, ifs, 0⟩] scope pos) (some (.Name y py)) spos.line X.env = pure true)
    (ok : BlkOk X.N X.env.scope scope own) (hok : OwnG X.K g gg (own.map (·.2))) (hi : MI X W tg iter fw)
    (hg : ∀ (s : Shared) (H : Hp) (C : Addr) (cl : List (Str × Addr)) (fp : List Addr), PG (X.blk s H scope (compEnvC scope cl C X.env) fp) tg g) (ht : ∀ (s : Shared) (H : Hp) (C : Addr) (cl : List (Str × Addr)) (fp : List Addr), MTs (X.blk s H scope (compEnvC scope cl C X.env) fp) WF ifs tt)
    (he : ∀ (s : Shared) (H : Hp) (C : Addr) (cl : List (Str × Addr)) (fp : List Addr), ME (X.blk s H scope (compEnvC scope cl C X.env) fp) WF elt te) (hs : ∀ x, foldedSetIterable iter X.env x = pure x := by intro _; rfl) :
    MS X W (.Assign [.Name y py] (.ListComp elt [⟨tg, iter, ifs, 0⟩] scope pos) spos) (sAsg (eLcV (own.map (·.2)) fw gg tt te) (gN i)) := by
  refine PS.weak (PS.lock (ps_setLc (i := i) (tt := tM X.K BV WF tt) (te := tM X.K (DV X.K) WF te) hc hN hy hyl hsw hi ok hg ht he hs)) fun D σ H h => ?_
  have h1 : tM X.K (DV X.K) W (eLcV (own.map (·.2)) fw gg tt te) σ H (fun v H1 => ∃ μ M ρ d, Rel X.K μ M H1 ∧ EV X.K μ M.length H1 ρ σ ∧ DV X.K μ M.length H1 d v ∧ AnsS X.K W μ M.length H1 (gN i d ρ M) D) := tSt.expr (rel := DV X.K) h
  refine lc_full hok h1 fun μ M H1 dl acc M' μ' H' accV E hdl a l r' ho hd dq => ⟨dl, accV, hd, fun o => ?_⟩
  obtain ⟨μ2, M2, ρ2, d2, r2, e2, q2, a2⟩ := a μ' _ _ (l.poke hdl (Kp.lst hd)) (r'.poke (Kp.lst hd) ho) (by
    unfold DV
    exact ⟨dl, accV, rfl, .inl ⟨o, upd_same⟩, DVs.kp (Kp.lst hd) _ _ dq⟩)
  exact a2 μ2 _ _ (Lift.refl ..) r2 (e2.set q2 i)
theorem ms_lcN (i : Nat) (hc : X.calm = true) (hN : X.N.Nodup) (hy : X.N[i]? = some y) (hyl : X.env.scope.names.lookup y = some .local) (hsw : swapsWith (.ListComp elt [⟨tg, iter, ifs, 0⟩] scope pos) (some (.Name y py)) spos.line X.env = pure true)
    (ok : BlkOk X.N X.env.scope scope own) (hok : OwnG X.K g gg (own.map (·.2))) (hi : MI X W tg iter fw)
    (hg : ∀ (s : Shared) (H : Hp) (C : Addr) (cl : List (Str × Addr)) (fp : List Addr), PG (X.blk s H scope (compEnvC scope cl C X.env) fp) tg g) (ht : ∀ (s : Shared) (H : Hp) (C : Addr) (cl : List (Str × Addr)) (fp : List Addr), MTs (X.blk s H scope (compEnvC scope cl C X.env) fp) WF ifs tt)
    (he : ∀ (s : Shared) (H : Hp) (C : Addr) (cl : List (Str × Addr)) (fp : List Addr), ME (X.blk s H scope (compEnvC scope cl C X.env) fp) WF elt te) (hs : ∀ x, foldedSetIterable iter X.env x = pure x := by intro _; rfl) :
    MS X W (.Assign [.Name y py] (.ListComp elt [⟨tg, iter, ifs, 0⟩] scope pos) spos) (sAsg (eLcN (own.map (·.2)) fw gg tt te) (gN i)) := by
  refine PS.weak (ps_setLc (i := i) (tt := tM X.K BV WF tt) (te := tM X.K (DV X.K) WF te) hc hN hy hyl hsw hi ok hg ht he hs) fun D σ H h => ?_
  have h1 : tM X.K (DV X.K) W (eLcN (own.map (·.2)) fw gg tt te) σ H (fun v H1 => ∃ μ M ρ d, Rel X.K μ M H1 ∧ EV X.K μ M.length H1 ρ σ ∧ DV X.K μ M.length H1 d v ∧ AnsS X.K W μ M.length H1 (gN i d ρ M) D) := tSt.expr (rel := DV X.K) h
  refine lc_full hok h1 fun μ M H1 dl acc M' μ' H' accV E hdl a l r' ho hd dq => ?_
  obtain ⟨μ2, M2, ρ2, d2, r2, e2, q2, a2⟩ := a (ext μ' M'.length dl) H' (.ref dl) (l.adopt hdl) (r'.adopt ho hd dq) (by
    unfold DV
    exact ⟨by simp, congrArg V.ref (if_pos rfl : ext μ' M'.length dl M'.length = dl).symm⟩)
  exact a2 μ2 _ _ (Lift.refl ..) r2 (e2.set q2 i)
end
/-! ### list(x) that nobody writes -/
def gLstV : FL := fun ds M => match ds with
  | [d] => (match seqA M d with
    | some xs => .ok (.lst xs) M
    | none => .no)
  | _ => .no
theorem me_listV {X : Cx} {W : WX} {e : Expr} {es : List Expr} {p pos : Pos} {g : FA} (hg : Gl X "list") (hm : X.mg "list" = none) (ha : MA X W (e :: es) g)
    (he : starEach (e :: es) X.env = (false, eval e X.env) :: starEach es X.env := by rfl) (hpl : (backTo pos (starEach es X.env)).any (·.1) = false := by rfl) : ME X W (.Call (.Name "list" p) (e :: es) [] pos) (eL gLstV g) := by
  refine PE.weak (PE.lock (pe_callTy call_list_of hg hm (by decide +kernel) ha (by decide) (by decide) he hpl)) fun σ H Q hw => ?_
  refine tM.mono (fun v H1 ⟨μ, M, ρ, d, r, e, q, a1⟩ => ?_) (tM.seq (rel := DVs X.K) hw)
  unfold gLstV at a1
  split at a1
  · split at a1
    · rename_i ds hd
      obtain ⟨v, r', e, q1, q2⟩ := q.inv_cons
      obtain ⟨a, xs, ev, sq, dq⟩ := seqA_ok r q1 hd
      rw [e, q2.inv_nil, ev]
      exact ⟨a, xs, rfl, sq, fun p hp => ⟨p, xs, rfl, upd_same, fun o => ans_lst r dq a1 p hp o⟩⟩
    · exact a1.elim
  · exact a1.elim
/-! ### a, b = a tuple or a list -/
def gTpA (n : Nat) (gs : List D → FStm) : FG := fun d ρ M => match seqA M d with
  | some ds => if ds.length = n then gs ds ρ M else .no
  | none => .no
theorem mg_tupA {X : Cx} {W : WX} {ts : List Expr} {gs : List D → FStm} {pos : Pos} {n k : Nat} (hc : X.calm = true) (h : MGs X W ts gs) (hn : (assignEach ts X.env).length = n := by rfl) (hst : (assignEach ts X.env).findIdx? (·.1) = none := by rfl) : MG X W (.Tuple ts k pos) (gTpA n gs) := by
  refine ⟨fun pins s σ H v u Q I rv ⟨μ, M, ρ, d, r, e, q, a⟩ => ?_⟩
  unfold gTpA at a
  split at a
  · split at a
    · rename_i ds hd hl
      obtain ⟨p, xs, ev, sq, dq⟩ := seqA_ok r q hd
      rcases sq with sq | sq
      · refine (pg_unl hc h hn hst).run pins s σ H v u Q I rv ⟨p, xs, ev, sq, by rw [dq.length]; exact hl, μ, M, ρ, ds, r, e, dq, a⟩
      · refine (pg_tup hc h hn hst).run pins s σ H v u Q I rv ⟨p, xs, ev, sq, by rw [dq.length]; exact hl, μ, M, ρ, ds, r, e, dq, a⟩
    · exact a.elim
  · exact a.elim
/-! ### a def that calls itself -/
theorem FnM.none {P : Program} {w : World} {K : PySem.W.Frag} {mg : Str → Option Value} {base : Heap} {k : Nat} {f : Addr} {fd : FuncData} {x qual : Str} {params : Arguments} {body : List Stmt} {scope : Scope} {dvs : List V} {kws : List (Str × V)} {N ps : List Str}
    (F : FunD K x qual params body scope dvs kws f fd) (S : FnScope N ps scope) : FnM P w K mg base (k + 1) f fd ps (fun _ _ => .no) :=
  fnM_of (b := fun _ _ => SR.no) F S fun _ _ _ _ _ _ _ _ => ⟨fun _ _ _ _ _ _ ⟨_, _, _, _, _, a⟩ => a.elim⟩
end Br
set_option Elab.async false
set_option linter.all false
set_option maxRecDepth 100000
set_option maxHeartbeats 4000000
namespace Br
open PySem PySem.Spec PyProof.Rows L2
theorem tab_at {fa : List He.Fa} {fn : List He.DefD} {ts : List He.Tab} {w : World} {K : PySem.W.Frag} (c : He.SaysT fa fn ts w K) (i : Nat) {t : He.Tab} (h : ts[i]? = some t) : He.dicW K (t.1 K) = some (He.keysIn w.params t.2) := by
  have e : ts.map (fun t => He.dicW K (t.1 K)) = ts.map fun t => some (He.keysIn w.params t.2) := congrArg (fun z : He.AlT => z.2) c
  have e2 := congrArg (fun l => l[i]?) e
  simp only [List.getElem?_map, h, Option.map_some] at e2
  exact Option.some.inj e2
end Br
set_option Elab.async false
set_option linter.all false
set_option maxRecDepth 100000
set_option maxHeartbeats 4000000
namespace Br
open PySem PySem.Spec PyProof.Rows
/-! ### data without references, bounded -/
theorem shown_int {i : Int} {B : Nat} (h : i.natAbs < 10 ^ B) (hB : 0 < B) : (PyData.shown (.int i)).length ≤ B + 1 := by
  have e := int_text_length_le10 hB h
  show (Str.ofString (toString i)).length ≤ B + 1
  rw [PySem.ofString_length]
  exact e
mutual
def okD (B : Nat) : D → Bool
  | .non => true
  | .bl _ => true
  | .int i => decide (i.natAbs < 10 ^ B)
  | .str x => PyData.strOk x
  | .tup xs => okDs B xs
  | .lst xs => okDs B xs
  | .ref _ => false
  | .gl _ => false
  | .ty _ => false
def okDs (B : Nat) : List D → Bool
  | [] => true
  | x :: xs => okD B x && okDs B xs
end
mutual
def dpD : D → Nat
  | .tup xs => dpDs xs + 1
  | .lst xs => dpDs xs + 1
  | _ => 0
def dpDs : List D → Nat
  | [] => 0
  | x :: xs => max (dpD x) (dpDs xs)
end
mutual
def wtD : D → Nat
  | .str x => x.cps.size
  | .int _ => 200
  | .tup xs => wtDs xs
  | .lst xs => wtDs xs
  | _ => 0
def wtDs : List D → Nat
  | [] => 0
  | x :: xs => wtD x + 1 + wtDs xs
end
theorem log_lt {n : Nat} (h : n < 10 ^ 50) : n.log2 < 170 := by
  by_cases h0 : n = 0
  · subst h0; decide
  · exact (Nat.log2_lt h0).mpr (Nat.lt_trans h (by decide))
/-- what is known of the data of such a value -/
structure PyOk (d : D) (p : PyData) : Prop where
  py : toPyR (fun _ => none) d = some p
  lay : p.canLay0 = true
  short : p.leavesShort 64 = true
  shown : p.showable = true
  dep : p.depth = dpD d
  wt : p.weight ≤ wtD d
structure PysOk (ds : List D) (ps : List PyData) : Prop where
  py : toPysR (fun _ => none) ds = some ps
  lay : PyData.canLayAll0 ps = true
  short : PyData.leavesShortAll 64 ps = true
  shown : PyData.showableAll ps = true
  dep : PyData.depthAll ps = dpDs ds
  wt : PyData.weightAll ps ≤ wtDs ds
mutual
theorem okD_py {B : Nat} (h0 : 0 < B) (hB : B ≤ 50) : ∀ d : D, okD B d = true → ∃ p, PyOk d p
  | .non, _ => ⟨.none, rfl, rfl, rfl, rfl, rfl, Nat.le_refl _⟩
  | .bl b, _ => ⟨.bool b, rfl, rfl, rfl, rfl, rfl, Nat.le_refl _⟩
  | .int i, h => by
    have h1 : i.natAbs < 10 ^ B := by simpa [okD] using h
    have h2 : i.natAbs < 10 ^ 50 := Nat.lt_of_lt_of_le h1 (Nat.pow_le_pow_right (by decide) hB)
    have h3 := log_lt h2
    have h4 := shown_int h1 h0
    refine ⟨.int i, rfl, rfl, ?_, ?_, rfl, ?_⟩
    · show decide ((PyData.shown (.int i)).length ≤ 64) = true
      exact decide_eq_true (by omega)
    · show decide (i.natAbs.log2 < 1920) = true
      exact decide_eq_true (by omega)
    · show (if i == 0 then 0 else i.natAbs.log2 + 1) ≤ 200
      split <;> omega
  | .str x, h => by
    have h1 : PyData.strOk x = true := by simpa [okD] using h
    refine ⟨.str x, rfl, ?_, ?_, rfl, rfl, Nat.le_refl _⟩
    · show PyData.strOk x = true
      exact h1
    · show (x.cps.toList.all fun c => decide (c < 16 ^ 8)) = true
      unfold PyData.strOk at h1
      rw [← Array.all_toList] at h1
      refine List.all_eq_true.mpr fun c hc => ?_
      have := List.all_eq_true.mp h1 c hc
      have h3 : c < 0x110000 := of_decide_eq_true this
      exact decide_eq_true (Nat.lt_trans h3 (by decide))
  | .tup xs, h => by
    obtain ⟨ps, q⟩ := okDs_py h0 hB xs (by simpa [okD] using h)
    refine ⟨.tuple ps, ?_, ?_, ?_, ?_, ?_, ?_⟩
    · unfold toPyR; rw [q.py]; rfl
    · simpa [PyData.canLay0] using q.lay
    · simpa [PyData.leavesShort] using q.short
    · simpa [PyData.showable] using q.shown
    · simp only [PyData.depth, dpD, q.dep]
    · simpa [PyData.weight, wtD] using q.wt
  | .lst xs, h => by
    obtain ⟨ps, q⟩ := okDs_py h0 hB xs (by simpa [okD] using h)
    refine ⟨.list ps, ?_, ?_, ?_, ?_, ?_, ?_⟩
    · unfold toPyR; rw [q.py]; rfl
    · simpa [PyData.canLay0] using q.lay
    · simpa [PyData.leavesShort] using q.short
    · simpa [PyData.showable] using q.shown
    · simp only [PyData.depth, dpD, q.dep]
    · simpa [PyData.weight, wtD] using q.wt
  | .ref _, h => by simp [okD] at h
  | .gl _, h => by simp [okD] at h
  | .ty _, h => by simp [okD] at h
theorem okDs_py {B : Nat} (h0 : 0 < B) (hB : B ≤ 50) : ∀ ds : List D, okDs B ds = true → ∃ ps, PysOk ds ps
  | [], _ => ⟨[], rfl, rfl, rfl, rfl, rfl, Nat.le_refl _⟩
  | x :: xs, h => by
    have h' : okD B x = true ∧ okDs B xs = true := by simpa [okDs] using h
    obtain ⟨p, q⟩ := okD_py h0 hB x h'.1
    obtain ⟨ps, qs⟩ := okDs_py h0 hB xs h'.2
    refine ⟨p :: ps, ?_, ?_, ?_, ?_, ?_, ?_⟩
    · unfold toPysR; rw [q.py, qs.py]; rfl
    · simp only [PyData.canLayAll0, q.lay, qs.lay, Bool.and_self]
    · simp only [PyData.leavesShortAll, q.short, qs.short, Bool.and_self]
    · simp only [PyData.showableAll, q.shown, qs.shown, Bool.and_self]
    · simp only [PyData.depthAll, dpDs, q.dep, qs.dep]
    · have a := q.wt
      have b := qs.wt
      simp only [PyData.weightAll, wtDs]; omega
end
theorem toPy_ok' {d : D} {p : PyData} (h : PyOk d p) (M : Mem) : toPy M d = some p := toPyR_mono _ _ _ h.py
theorem shaped_ok {d : D} {p : PyData} (h : PyOk d p) (hd : dpD d ≤ 64) : SeqAt.shaped p = true := by
  unfold SeqAt.shaped
  rw [h.lay, h.dep]
  simpa using hd
theorem repr_okD {B : Nat} {d : D} (h0 : 0 < B) (hB : B ≤ 50) (h : okD B d = true) (hd : dpD d ≤ 64) (hw : wtD d ≤ 200000) (M : Mem) : ∃ z, gRepr [d] M = .ok (.str z) M := by
  obtain ⟨p, q⟩ := okD_py h0 hB d h
  have h1 := PyData.shown_le 64 (by decide) p q.short
  have h2 := PyData.hasDict_of_canLay p q.lay
  have h3 := q.wt
  refine ⟨p.shown, ?_⟩
  unfold gRepr
  dsimp only
  rw [toPy_ok' q]
  dsimp only
  rw [if_pos]
  simp only [q.shown, h2, q.dep, Bool.not_false, Bool.and_self, Bool.true_and, Bool.and_eq_true, decide_eq_true_eq]
  refine ⟨hd, ?_⟩
  rw [sizeLine_eq]
  omega
end Br
set_option Elab.async false
set_option linter.all false
set_option maxRecDepth 100000
set_option maxHeartbeats 4000000
namespace LW
open PySem PySem.Spec PyProof.Rows L2 Br
def kv_FORMS : List (Str × Str) := [(("cache" : Str), ("" : Str)), (("once" : Str), ("" : Str)), (("stale" : Str), ("K" : Str)), (("limit" : Str), ("ZC" : Str)), (("depth" : Str), ("NC" : Str)), (("guard" : Str), ("C" : Str)), (("breaker" : Str), ("NNC" : Str)), (("retry" : Str), ("NK" : Str)), (("swallow" : Str), ("VK" : Str)), (("rename" : Str), ("CC" : Str)), (("lead" : Str), ("A" : Str))]
/-- is_whole -/
def b_is_whole : FStm := (sRet (eAnd (eL gIsi (aC (eV 0) (aC (eC (D.ty "int")) aN))) (eNot (eL gIsi (aC (eV 0) (aC (eC (D.ty "bool")) aN))))))
def m_is_whole : FL := run b_is_whole 1
/-- is_number -/
def b_is_number : FStm := (sRet (eAnd (eL (gCall 1 (fun ds _ => ds) m_is_whole) (aC (eV 0) aN)) (eCh gLe gLt (eC (D.int 0)) (eV 0) (eV 1))))
def m_is_number : FL := run b_is_number 2
/-- are_arguments -/
def b_are_arguments : FStm := (sRet (eAnd (eL gIsi (aC (eV 0) (aC (eC (D.ty "tuple")) aN))) (eAnd (e2 gEq (eL gLen (aC (eV 0) aN)) (eV 1)) (eL gAll (aC (eLcV [2] (wIt (eV 0)) (gN 2) tYesM (eL (gCall 2 (fun ds _ => ds) m_is_number) (aC (eV 2) (aC (eV 1) aN)))) aN)))))
def m_are_arguments : FL := run b_are_arguments 3
/-- are_kinds -/
def b_are_kinds : FStm := (sSeq (sIf (tOr (tNot (tT (eL gIsi (aC (eV 0) (aC (eC (D.ty "tuple")) aN))))) (tNot (tT (eL gAll (aC (eLcV [2] (wIt (eV 0)) (gN 2) tYesM (eL (gCall 2 (fun ds _ => ds) m_is_number) (aC (eV 2) (aC (eV 1) aN)))) aN))))) (sRet (eC (D.bl false))) sNx)
    (sRet (eAnd (eCh gLe gLe (eC (D.int 1)) (eL gLen (aC (eV 0) aN)) (eV 1)) (eOr (e2 gEq (eL gLen (aC (eV 0) aN)) (eC (D.int 1))) (e2 gLt (e2 gIx (eV 0) (eC (D.int 0))) (e2 gIx (eV 0) (eC (D.int 1))))))))
def m_are_kinds : FL := run b_are_kinds 3
/-- is_item -/
def b_is_item : FStm := (sMatch (eV 0) (cV (eC (D.str "K")) (sRet (eL (gCall 2 (fun ds _ => ds) m_are_kinds) (aC (eV 1) (aC (eV 3) aN)))) (cV (eC (D.str "A")) (sRet (eL (gCall 2 (fun ds _ => ds) m_are_arguments) (aC (eV 1) (aC (eV 2) aN)))) (cV (eC (D.str "C")) (sRet (eL (gCall 2 (fun ds _ => ds) m_is_number) (aC (eV 1) (aC (eV 3) aN)))) (cV (eC (D.str "V")) (sRet (eL (gCall 2 (fun ds _ => ds) m_is_number) (aC (eV 1) (aC (e2 gAdd (eC (D.int 9)) (eC (D.int 1))) aN)))) (cV (eC (D.str "Z")) (sRet (eL (gCall 2 (fun ds _ => ds) m_is_number) (aC (eV 1) (aC (e2 gAdd (eC (D.int 2)) (eC (D.int 1))) aN)))) (cA (sRet (eAnd (eL (gCall 1 (fun ds _ => ds) m_is_whole) (aC (eV 1) aN)) (eCh gLe gLe (eC (D.int 1)) (eV 1) (eC (D.int 2))))))))))))
def m_is_item : FL := run b_is_item 4
/-- is_layer -/
def b_is_layer : FStm := (sSeq (sIf (tOr (tNot (tT (eL gIsi (aC (eV 0) (aC (eC (D.ty "tuple")) aN))))) (tOr (tC (e2 gEq (eV 0) (eL gTup aN))) (tOr (tNot (tT (eL gIsi (aC (e2 gIx (eV 0) (eC (D.int 0))) (aC (eC (D.ty "str")) aN))))) (tC (e2 (gInK "FORMS" kv_FORMS true) (e2 gIx (eV 0) (eC (D.int 0))) (eC (D.gl "FORMS"))))))) (sRet (eC (D.bl false))) sNx)
    (sSeq (sAsgT (eV 0) (gStar (gsC (gN 3) (gsC (gN 4) gsN))))
    (sSeq (sAsg (e2 (gIxK "FORMS" kv_FORMS) (eC (D.gl "FORMS")) (eV 3)) (gN 5))
    (sSeq (sIf (tC (e2 gNe (eL gLen (aC (eV 4) aN)) (eL gLen (aC (eV 5) aN)))) (sRet (eC (D.bl false))) sNx)
    (sSeq (sIf (tNot (tT (eL gAll (aC (eLcV [6, 7] (wZipS (aC (eV 5) (aC (eV 4) aN))) (gTp 2 (gsC (gN 6) (gsC (gN 7) gsN))) tYesM (eL (gCall 4 (fun ds _ => ds) m_is_item) (aC (eV 6) (aC (eV 7) (aC (eV 1) (aC (eV 2) aN)))))) aN)))) (sRet (eC (D.bl false))) sNx)
    (sRet (eOr (e2 gNe (eV 3) (eC (D.str "rename"))) (e2 gNe (e2 gIx (eV 4) (eC (D.int 0))) (e2 gIx (eV 4) (eC (D.int 1)))))))))))
def m_is_layer : FL := run b_is_layer 8
/-- _law_take -/
def b__law_take : FStm := (sSeq (sIf (tC (e2 gGt (e2 gIx (eV 0) (eC (D.int 0))) (eC (D.int 0)))) (sSeq (sAsg (e2 gMod (e2 gIx (eV 0) (eC (D.int 0))) (eV 1)) (gN 3))
    (sSeq (sAsgT (e2 gFdiv (e2 gIx (eV 0) (eC (D.int 0))) (eV 1)) (gSb (eV 0) (eC (D.int 0))))
    (sRet (eV 3)))) sNx)
    (sSeq (sAsgT (e2 gAdd (e2 gIx (eV 0) (eC (D.int 2))) (eC (D.int 1))) (gSb (eV 0) (eC (D.int 2))))
    (sSeq (sAsg (e2 gMod (e2 gPow (e2 gAdd (e2 gIx (eV 0) (eC (D.int 1))) (e2 gMul' (eC (D.int 1000033)) (e2 gIx (eV 0) (eC (D.int 2))))) (eC (D.int 3))) (eC (D.int 2305843009213693921))) (gN 2))
    (sSeq (sAsg (e2 gMod (e2 gPow (e2 gAdd (eV 2) (e2 gMul' (eC (D.int 15485917)) (e2 gIx (eV 0) (eC (D.int 2))))) (eC (D.int 2))) (eC (D.int 2305843009213693951))) (gN 2))
    (sRet (e2 gMod (e2 gFdiv (eV 2) (eC (D.int 2048))) (eV 1)))))))
def m__law_take : FL := run b__law_take 4
/-- _law_any -/
def b__law_any : FStm := (sSeq (sAsg (eL gLst (aC (eC D.non) (aC (eC (D.bl true)) (aC (eC (D.bl false)) (aC (eC (D.int 0)) (aC (eC (D.int 1)) (aC (eC (D.int 2)) (aC (eC (D.int 3)) (aC (e1 gNeg (eC (D.int 1))) (aC (eC (D.int 9)) (aC (eC (D.int 10)) (aC (e2 gPow (eC (D.int 10)) (eC (D.int 40))) (aC (eC (D.str "")) (aC (eC (D.str "cache")) (aC (eC (D.str "stale")) (aC (eC (D.str "retry")) (aC (eC (D.str "Cache")) (aC (eC (D.str "lead")) (aC (eL gLst aN) (aC (eL gTup aN) aN)))))))))))))))))))) (gN 1))
    (sSeq (sAsg (e2 gCatN (eV 1) (eL gLst (aC (eL gTup (aC (eC (D.int 0)) aN)) (aC (eL gTup (aC (eC (D.int 1)) aN)) (aC (eL gTup (aC (eC (D.int 0)) (aC (eC (D.int 1)) aN))) (aC (eL gTup (aC (eC (D.int 1)) (aC (eC (D.int 0)) aN))) (aC (eL gTup (aC (eC (D.int 0)) (aC (eC (D.int 0)) aN))) (aC (eL gLst (aC (eC (D.int 0)) aN)) (aC (eL gTup (aC (eC (D.bl true)) aN)) (aC (eL gTup (aC (eC (D.str "cache")) aN)) (aC (eL gLst (aC (eC (D.str "cache")) aN)) (aC (eL gTup (aC (eC (D.str "once")) aN)) aN)))))))))))) (gN 1))
    (sSeq (sDrop (eAppend (eV 1) (aC (eL gTup (aC (eC (D.str "retry")) (aC (eC (D.int 1)) (aC (eL gTup (aC (eC (D.int 0)) aN)) aN)))) aN)))
    (sRet (e2 gIx (eV 1) (eL (gCall 2 (fun ds _ => ds) m__law_take) (aC (eV 0) (aC (eC (D.int 30)) aN))))))))
def m__law_any : FL := run b__law_any 2
/-- _law_bent -/
def l0__law_bent (self : FL) : FStm := (sSeq (sPar [2, 3] (aC (eL (gCall 1 (fun ds _ => ds) m__law_any) (aC (eV 0) aN)) (aC (eL (gCall 2 (fun ds _ => ds) m__law_take) (aC (eV 0) (aC (eC (D.int 8)) aN))) aN)))
    (sSeq (sIf (tAnd (tT (eL gIsi (aC (eV 1) (aC (eC (D.ty "tuple")) aN)))) (tC (e2 gLt (eV 3) (eC (D.int 5))))) (sSeq (sAsg (eL (gCall 2 (fun ds _ => ds) m__law_take) (aC (eV 0) (aC (e2 gAdd (eL gLen (aC (eV 1) aN)) (eC (D.int 1))) aN))) (gN 4))
    (sSeq (sAsg (eL gLst (aC (eL gLstV (aC (eV 1) aN)) (aC (e2 gAdd (eSl (eV 1) oN (oS (eV 4))) (eSl (eV 1) (oS (e2 gAdd (eV 4) (eC (D.int 1)))) oN)) (aC (e2 gAdd (e2 gAdd (eSl (eV 1) oN (oS (eV 4))) (eL gTup (aC (eV 2) aN))) (eSl (eV 1) (oS (eV 4)) oN)) (aC (e1 gRev (eV 1)) aN))))) (gN 5))
    (sRet (e2 gIx (e2 gCatV (eV 5) (eL gLst (aC (e2 gAdd (eSl (eV 1) oN (oS (e2 gAdd (eV 4) (eC (D.int 1))))) (eSl (eV 1) (oS (eV 4)) oN)) aN))) (eV 3))))) sNx)
    (sSeq (sIf (tAnd (tT (eL gIsi (aC (eV 1) (aC (eC (D.ty "int")) aN)))) (tAnd (tNot (tT (eL gIsi (aC (eV 1) (aC (eC (D.ty "bool")) aN))))) (tC (e2 gLt (eV 3) (eC (D.int 5)))))) (sRet (e2 gIx (eL gLst (aC (e2 gAdd (eV 1) (eC (D.int 1))) (aC (e2 gSub (eV 1) (eC (D.int 1))) (aC (e2 gEq (eV 1) (eC (D.int 1))) (aC (e2 gAdd (eV 1) (eC (D.int 4))) (aC (eL gStr (aC (eV 1) aN)) aN)))))) (eV 3))) sNx)
    (sRet (eV 2)))))
def b__law_bent (self : FL) : FStm := (sSeq (sIf (tAnd (tT (eL gIsi (aC (eV 1) (aC (eC (D.ty "tuple")) aN)))) (tAnd (tC (e2 gNe (eV 1) (eL gTup aN))) (tC (e2 gGt (eL (gCall 2 (fun ds _ => ds) m__law_take) (aC (eV 0) (aC (eC (D.int 4)) aN))) (eC (D.int 0)))))) (sSeq (sAsg (eL (gCall 2 (fun ds _ => ds) m__law_take) (aC (eV 0) (aC (eL gLen (aC (eV 1) aN)) aN))) (gN 4))
    (sRet (e2 gAdd (e2 gAdd (eSl (eV 1) oN (oS (eV 4))) (eL gTup (aC (eL (gCall 2 (fun ds _ => ds) self) (aC (eV 0) (aC (e2 gIx (eV 1) (eV 4)) aN))) aN))) (eSl (eV 1) (oS (e2 gAdd (eV 4) (eC (D.int 1)))) oN)))) sNx)
    (l0__law_bent self))
def m__law_bent : Nat → FL
  | 0 => fun _ _ => .no
  | k + 1 => run (b__law_bent (m__law_bent k)) 6
/-- _law_whole -/
def b__law_whole : FStm := (sRet (eAnd (eL gIsi (aC (eV 0) (aC (eC (D.ty "int")) aN))) (eNot (eL gIsi (aC (eV 0) (aC (eC (D.ty "bool")) aN))))))
def m__law_whole : FL := run b__law_whole 1
/-- _law_among -/
def b__law_among : FStm := (sRet (eAnd (eL (gCall 1 (fun ds _ => ds) m__law_whole) (aC (eV 0) aN)) (eCh gLe gLe (eV 1) (eV 0) (eV 2))))
def m__law_among : FL := run b__law_among 3
/-- _law_are_kinds -/
def b__law_are_kinds : FStm := (sSeq (sIf (tOr (tNot (tT (eL gIsi (aC (eV 0) (aC (eC (D.ty "tuple")) aN))))) (tNot (tT (eL gAll (aC (eLcV [2] (wIt (eV 0)) (gN 2) tYesM (eL (gCall 3 (fun ds _ => ds) m__law_among) (aC (eV 2) (aC (eC (D.int 0)) (aC (e2 gSub (eV 1) (eC (D.int 1))) aN))))) aN))))) (sRet (eC (D.bl false))) sNx)
    (sRet (e2 (gIn false) (eV 0) (eL gTup (aC (eL gTup (aC (eC (D.int 0)) aN)) (aC (eL gTup (aC (eC (D.int 1)) aN)) (aC (eL gTup (aC (eC (D.int 0)) (aC (eC (D.int 1)) aN))) aN)))))))
def m__law_are_kinds : FL := run b__law_are_kinds 3
/-- _law_is_layer -/
def b__law_is_layer : FStm := (sSeq (sIf (tOr (tNot (tT (eL gIsi (aC (eV 0) (aC (eC (D.ty "tuple")) aN))))) (tOr (tC (e2 gEq (eV 0) (eL gTup aN))) (tNot (tT (eL gIsi (aC (e2 gIx (eV 0) (eC (D.int 0))) (aC (eC (D.ty "str")) aN))))))) (sRet (eC (D.bl false))) sNx)
    (sSeq (sPar [3, 4] (aC (e2 gIx (eV 0) (eC (D.int 0))) (aC (eSl (eV 0) (oS (eC (D.int 1))) oN) aN)))
    (sSeq (sIf (tC (e2 (gIn false) (eV 3) (eL gTup (aC (eC (D.str "cache")) (aC (eC (D.str "once")) aN))))) (sRet (e2 gEq (eV 4) (eL gTup aN))) sNx)
    (sSeq (sIf (tC (e2 gEq (eV 3) (eC (D.str "stale")))) (sRet (eAnd (e2 gEq (eL gLen (aC (eV 4) aN)) (eC (D.int 1))) (eL (gCall 2 (fun ds _ => ds) m__law_are_kinds) (aC (e2 gIx (eV 4) (eC (D.int 0))) (aC (eV 2) aN))))) sNx)
    (sSeq (sIf (tC (e2 gEq (eV 3) (eC (D.str "guard")))) (sRet (eAnd (e2 gEq (eL gLen (aC (eV 4) aN)) (eC (D.int 1))) (eL (gCall 3 (fun ds _ => ds) m__law_among) (aC (e2 gIx (eV 4) (eC (D.int 0))) (aC (eC (D.int 0)) (aC (e2 gSub (eV 2) (eC (D.int 1))) aN)))))) sNx)
    (sSeq (sIf (tC (e2 (gIn false) (eV 3) (eL gTup (aC (eC (D.str "limit")) (aC (eC (D.str "depth")) aN))))) (sRet (eAnd (e2 gEq (eL gLen (aC (eV 4) aN)) (eC (D.int 2))) (eAnd (eL (gCall 3 (fun ds _ => ds) m__law_among) (aC (e2 gIx (eV 4) (eC (D.int 0))) (aC (eL gInt (aC (e2 gEq (eV 3) (eC (D.str "depth"))) aN)) (aC (eC (D.int 2)) aN)))) (eL (gCall 3 (fun ds _ => ds) m__law_among) (aC (e2 gIx (eV 4) (eC (D.int 1))) (aC (eC (D.int 0)) (aC (e2 gSub (eV 2) (eC (D.int 1))) aN))))))) sNx)
    (sSeq (sIf (tC (e2 gEq (eV 3) (eC (D.str "breaker")))) (sSeq (sAsg (eAnd (e2 gEq (eL gLen (aC (eV 4) aN)) (eC (D.int 3))) (eAnd (eL (gCall 3 (fun ds _ => ds) m__law_among) (aC (e2 gIx (eV 4) (eC (D.int 0))) (aC (eC (D.int 1)) (aC (eC (D.int 2)) aN)))) (eL (gCall 3 (fun ds _ => ds) m__law_among) (aC (e2 gIx (eV 4) (eC (D.int 1))) (aC (eC (D.int 1)) (aC (eC (D.int 2)) aN)))))) (gN 5))
    (sRet (eAnd (eV 5) (eL (gCall 3 (fun ds _ => ds) m__law_among) (aC (e2 gIx (eV 4) (eC (D.int 2))) (aC (eC (D.int 0)) (aC (e2 gSub (eV 2) (eC (D.int 1))) aN))))))) sNx)
    (sSeq (sIf (tC (e2 (gIn false) (eV 3) (eL gTup (aC (eC (D.str "retry")) (aC (eC (D.str "swallow")) aN))))) (sSeq (sAsgT (eIf (tC (e2 gEq (eV 3) (eC (D.str "swallow")))) (eL gLst (aC (eC (D.int 0)) (aC (eC (D.int 9)) aN))) (eL gLst (aC (eC (D.int 1)) (aC (eC (D.int 2)) aN)))) (gTpA 2 (gsC (gN 6) (gsC (gN 7) gsN))))
    (sRet (eAnd (e2 gEq (eL gLen (aC (eV 4) aN)) (eC (D.int 2))) (eAnd (eL (gCall 3 (fun ds _ => ds) m__law_among) (aC (e2 gIx (eV 4) (eC (D.int 0))) (aC (eV 6) (aC (eV 7) aN)))) (eL (gCall 2 (fun ds _ => ds) m__law_are_kinds) (aC (e2 gIx (eV 4) (eC (D.int 1))) (aC (eV 2) aN))))))) sNx)
    (sSeq (sIf (tC (e2 gEq (eV 3) (eC (D.str "rename")))) (sSeq (sAsg (eAnd (e2 gEq (eL gLen (aC (eV 4) aN)) (eC (D.int 2))) (eAnd (eL (gCall 3 (fun ds _ => ds) m__law_among) (aC (e2 gIx (eV 4) (eC (D.int 0))) (aC (eC (D.int 0)) (aC (e2 gSub (eV 2) (eC (D.int 1))) aN)))) (eL (gCall 3 (fun ds _ => ds) m__law_among) (aC (e2 gIx (eV 4) (eC (D.int 1))) (aC (eC (D.int 0)) (aC (e2 gSub (eV 2) (eC (D.int 1))) aN)))))) (gN 5))
    (sRet (eAnd (eV 5) (e2 gNe (e2 gIx (eV 4) (eC (D.int 0))) (e2 gIx (eV 4) (eC (D.int 1))))))) sNx)
    (sSeq (sIf (tOr (tC (e2 gNe (eV 3) (eC (D.str "lead")))) (tOr (tC (e2 gNe (eL gLen (aC (eV 4) aN)) (eC (D.int 1)))) (tOr (tNot (tT (eL gIsi (aC (e2 gIx (eV 4) (eC (D.int 0))) (aC (eC (D.ty "tuple")) aN))))) (tC (e2 gNe (eL gLen (aC (e2 gIx (eV 4) (eC (D.int 0))) aN)) (eV 1)))))) (sRet (eC (D.bl false))) sNx)
    (sRet (eL gAll (aC (eLcV [8] (wIt (e2 gIx (eV 4) (eC (D.int 0)))) (gN 8) tYesM (eL (gCall 3 (fun ds _ => ds) m__law_among) (aC (eV 8) (aC (eC (D.int 0)) (aC (e2 gSub (eV 1) (eC (D.int 1))) aN))))) aN)))))))))))))
def m__law_is_layer : FL := run b__law_is_layer 9
/-- _law_some_kinds -/
def b__law_some_kinds : FStm := (sRet (eIf (tC (e2 gEq (eV 1) (eC (D.int 2)))) (e2 gIx (eL gLst (aC (eL gTup (aC (eC (D.int 0)) aN)) (aC (eL gTup (aC (eC (D.int 0)) (aC (eC (D.int 1)) aN))) (aC (eL gTup (aC (eC (D.int 1)) aN)) (aC (eL gTup (aC (eC (D.int 0)) aN)) aN))))) (eL (gCall 2 (fun ds _ => ds) m__law_take) (aC (eV 0) (aC (eC (D.int 4)) aN)))) (eL gTup (aC (eC (D.int 0)) aN))))
def m__law_some_kinds : FL := run b__law_some_kinds 2
/-- _law_layer -/
def b__law_layer : FStm := (sSeq (sPar [3, 4, 5] (aC (eL (gCall 2 (fun ds _ => ds) m__law_take) (aC (eV 0) (aC (eV 2) aN))) (aC (eL (gCall 2 (fun ds _ => ds) m__law_some_kinds) (aC (eV 0) (aC (eV 2) aN))) (aC (e2 gAdd (eC (D.int 1)) (eL (gCall 2 (fun ds _ => ds) m__law_take) (aC (eV 0) (aC (eC (D.int 2)) aN)))) aN))))
    (sSeq (sAsg (eL gLst (aC (eL gTup (aC (eC (D.str "cache")) aN)) (aC (eL gTup (aC (eC (D.str "once")) aN)) (aC (eL gTup (aC (eC (D.str "stale")) (aC (eV 4) aN))) (aC (eL gTup (aC (eC (D.str "limit")) (aC (eL (gCall 2 (fun ds _ => ds) m__law_take) (aC (eV 0) (aC (eC (D.int 3)) aN))) (aC (eV 3) aN)))) (aC (eL gTup (aC (eC (D.str "depth")) (aC (eV 5) (aC (eV 3) aN)))) aN)))))) (gN 6))
    (sSeq (sAsg (e2 gCatN (eV 6) (eL gLst (aC (eL gTup (aC (eC (D.str "guard")) (aC (eV 3) aN))) (aC (eL gTup (aC (eC (D.str "breaker")) (aC (eV 5) (aC (e2 gAdd (eC (D.int 1)) (eL (gCall 2 (fun ds _ => ds) m__law_take) (aC (eV 0) (aC (eC (D.int 2)) aN)))) (aC (eV 3) aN))))) (aC (eL gTup (aC (eC (D.str "retry")) (aC (eV 5) (aC (eV 4) aN)))) aN))))) (gN 6))
    (sSeq (sDrop (eAppend (eV 6) (aC (eL gTup (aC (eC (D.str "swallow")) (aC (eL (gCall 2 (fun ds _ => ds) m__law_take) (aC (eV 0) (aC (eC (D.int 10)) aN))) (aC (eV 4) aN)))) aN)))
    (sSeq (sDrop (eAppend (eV 6) (aC (eL gTup (aC (eC (D.str "lead")) (aC (eL gTupOf (aC (eLcV [7] (wRng1 (aC (eV 1) aN)) (gN 7) tYesM (eL (gCall 2 (fun ds _ => ds) m__law_take) (aC (eV 0) (aC (eV 1) aN)))) aN)) aN))) aN)))
    (sSeq (sIf (tC (e2 gEq (eV 2) (eC (D.int 2)))) (sAsg (e2 gCatV (eV 6) (eL gLst (aC (eL gTup (aC (eC (D.str "rename")) (aC (eV 3) (aC (e2 gSub (eC (D.int 1)) (eV 3)) aN)))) aN))) (gN 6)) sNx)
    (sRet (e2 gIx (eV 6) (eL (gCall 2 (fun ds _ => ds) m__law_take) (aC (eV 0) (aC (eL gLen (aC (eV 6) aN)) aN)))))))))))
def m__law_layer : FL := run b__law_layer 8
/-- _law_bag -/
def b__law_bag : FStm := (sSeq (sAsg (eIf (tC (e2 gLt (eV 1) (eL gLen (aC (eV 0) aN)))) (e2 gIx (eV 0) (eV 1)) (eC (D.int 0))) (gN 2))
    (sSeq (sAsg (eIf (tC (e2 gGe (eL gAbs (aC (eV 2) aN)) (e2 gPow (eC (D.int 10)) (eC (D.int 18))))) (eL gAbs (aC (eV 2) aN)) (eC (D.int 0))) (gN 3))
    (sRet (eL gNew (aC (eV 3) (aC (e2 gMod (e2 gMul' (e2 gAdd (e2 gAdd (e2 gMod (eV 2) (eC (D.int 2305843009213693951))) (e2 gMul' (eC (D.int 8221)) (eV 1))) (eC (D.int 7))) (eC (D.int 5103497))) (eC (D.int 2305843009213693951))) (aC (eC (D.int 0)) aN)))))))
def m__law_bag : FL := run b__law_bag 4
/-- law -/
def l0_law : FStm := (sSeq (sAsg (eK 1 2 (fun ds es => pk ds 0 ++ (pk es 0 ++ (pk es 1 ++ ([])))) m_is_layer (aC (eV 7) aN) (aC (e2 gIx (eV 9) (eC (D.int 0))) (aC (e2 gIx (eV 9) (eC (D.int 1))) aN))) (gN 10))
    (sIf (tOr (tNot (tT (eL gIsi (aC (eV 10) (aC (eC (D.ty "bool")) aN))))) (tC (e2 gNe (eV 10) (eL (gCall 3 (fun ds _ => ds) m__law_is_layer) (aC (eV 7) (aC (e2 gIx (eV 9) (eC (D.int 0))) (aC (e2 gIx (eV 9) (eC (D.int 1))) aN))))))) (sRet (eC (D.bl false))) sNx))
def l1_law : FStm := (sSeq (sAsg (eL gRepr (aC (eV 7) aN)) (gN 8))
    (sSeq (sForE 100 (wIt (eL gLst (aC (eL gTup (aC (eC (D.int 1)) (aC (eC (D.int 1)) aN))) (aC (eL gTup (aC (eC (D.int 1)) (aC (eC (D.int 2)) aN))) (aC (eL gTup (aC (eC (D.int 2)) (aC (eC (D.int 1)) aN))) (aC (eL gTup (aC (eC (D.int 2)) (aC (eC (D.int 2)) aN))) aN)))))) (gN 9) l0_law)
    (sIf (tOr (tC (e2 gNe (eL (gCall 1 (fun ds _ => ds ++ [D.int 2, D.int 2]) m_is_layer) (aC (eV 7) aN)) (eL (gCall 3 (fun ds _ => ds) m__law_is_layer) (aC (eV 7) (aC (eC (D.int 2)) (aC (eC (D.int 2)) aN)))))) (tC (e2 gNe (eL gRepr (aC (eV 7) aN)) (eV 8)))) (sRet (eC (D.bl false))) sNx)))
def l2_law : FStm := (sSeq (sAsg (eL (gCall 3 (fun ds _ => ds) m__law_layer) (aC (eV 3) (aC (e2 gAdd (eC (D.int 1)) (eL (gCall 2 (fun ds _ => ds) m__law_take) (aC (eV 3) (aC (eC (D.int 2)) aN)))) (aC (e2 gAdd (eC (D.int 1)) (eL (gCall 2 (fun ds _ => ds) m__law_take) (aC (eV 3) (aC (eC (D.int 2)) aN)))) aN)))) (gN 5))
    (sSeq (sAsg (eL (gCall 2 (fun ds _ => ds) (m__law_bent 8)) (aC (eV 3) (aC (eV 5) aN))) (gN 6))
    (sForE 100 (wIt (eL gLst (aC (eV 5) (aC (eV 6) (aC (eL (gCall 2 (fun ds _ => ds) (m__law_bent 8)) (aC (eV 3) (aC (eV 6) aN))) (aC (eL gLstV (aC (eV 5) aN)) (aC (e2 gAdd (eV 5) (eL gTup (aC (eC (D.int 0)) aN))) (aC (eSl (eV 5) oN (oS (e1 gNeg (eC (D.int 1))))) (aC (eL (gCall 1 (fun ds _ => ds) m__law_any) (aC (eV 3) aN)) aN))))))))) (gN 7) l1_law)))
def l3_law : FStm := (sSeq (sAsg (eL (gCall 2 (fun ds _ => ds) m__law_bag) (aC (eV 0) (aC (eV 1) aN))) (gN 3))
    (sForE 100 (wRng1 (aC (eC (D.int 10)) aN)) (gN 4) l2_law))
def b_law : FStm := (sSeq (sForE 100 (wRng1 (aC (eL gMax (aC (eC (D.int 2)) (aC (eL gMin (aC (eC (D.int 6)) (aC (eL gLen (aC (eV 0) aN)) aN))) aN))) aN)) (gN 1) l3_law)
    (sSeq (sAsg (eL gLst (aC (eL (gCall 1 (fun ds _ => ds ++ [D.int 2, D.int 2]) m_is_layer) (aC (eL gTup (aC (eC (D.str "limit")) (aC (eC (D.int 0)) (aC (eC (D.int 0)) aN)))) aN)) (aC (eL (gCall 1 (fun ds _ => ds ++ [D.int 2, D.int 2]) m_is_layer) (aC (eL gTup (aC (eC (D.str "depth")) (aC (eC (D.int 0)) (aC (eC (D.int 0)) aN)))) aN)) (aC (eL (gCall 1 (fun ds _ => ds ++ [D.int 2, D.int 2]) m_is_layer) (aC (eL gTup (aC (eC (D.str "retry")) (aC (eC (D.int 3)) (aC (eL gTup (aC (eC (D.int 0)) aN)) aN)))) aN)) aN)))) (gN 2))
    (sRet (e2 gEq (eL gRepr (aC (eV 2) aN)) (eC (D.str "[True, False, False]"))))))
def m_law : FL := run b_law 11
end LW
set_option Elab.async false
set_option linter.all false
set_option maxRecDepth 100000
set_option maxHeartbeats 4000000
namespace LW
open PySem PySem.Spec Br
theorem run_go {b : FStm} {n : Nat} {ds : List D} {M M1 : Mem} {ρ1 : En} {d : D} (h : b (st0 n ds) M = .go (.ret d) ρ1 M1) : Br.run b n ds M = .ok d M1 := by
  unfold Br.run; rw [h]; rfl
theorem go_step {a b : FStm} {ρ ρ1 : En} {M M1 : Mem} {r : SR} (h : a ρ M = .go .nx ρ1 M1) (k : b ρ1 M1 = r) : sSeq a b ρ M = r := by
  unfold sSeq; rw [h]; exact k
theorem go_ret {a b : FStm} {ρ ρ1 : En} {M M1 : Mem} {d : D} (h : a ρ M = .go (.ret d) ρ1 M1) : sSeq a b ρ M = .go (.ret d) ρ1 M1 := by
  unfold sSeq; rw [h]; rfl
theorem ret_ok {a : FE} {ρ : En} {M M1 : Mem} {d : D} (h : a ρ M = .ok d M1) : sRet a ρ M = .go (.ret d) ρ M1 := by
  unfold sRet; rw [h]; rfl
theorem asg_ok {a : FE} {k : Nat} {ρ : En} {M M1 : Mem} {d : D} (h : a ρ M = .ok d M1) : sAsg a (gN k) ρ M = .go .nx (ρ.set k (some d)) M1 := by
  unfold sAsg; rw [h]; rfl
theorem if_t {t : FT} {a b : FStm} {ρ : En} {M M1 : Mem} {r : SR} (h : t ρ M = .ok true M1) (k : a ρ M1 = r) : sIf t a b ρ M = r := by
  unfold sIf; rw [h]; exact k
theorem if_f {t : FT} {a b : FStm} {ρ : En} {M M1 : Mem} {r : SR} (h : t ρ M = .ok false M1) (k : b ρ M1 = r) : sIf t a b ρ M = r := by
  unfold sIf; rw [h]; exact k
/-- a number of a range -/
def rngB (lo hi : Int) : D → Bool
  | .int i => decide (lo ≤ i ∧ i ≤ hi)
  | _ => false
def plainD : D → Bool
  | .ref _ => false
  | .gl _ => false
  | .ty _ => false
  | _ => true
theorem plain_ok {B : Nat} {d : D} (h : okD B d = true) : plainD d = true := by cases d <;> simp_all [okD, plainD]
theorem among_ok {d : D} (h : plainD d = true) (lo hi : Int) (M : Mem) : m__law_among [d, .int lo, .int hi] M = .ok (.bl (rngB lo hi d)) M := by
  unfold m__law_among
  refine run_go (ρ1 := [some d, some (.int lo), some (.int hi)]) ?_
  unfold b__law_among
  refine ret_ok ?_
  cases d with
  | int i =>
    by_cases h1 : lo ≤ i
    · by_cases h2 : i ≤ hi <;> simp [eAnd, eL, gCall, aC, aN, eV, R.bind, m__law_whole, Br.run, st0, b__law_whole, sRet, SR.of, SR.val, eNot, gIsi, tyD, tyNames, isiB, truD, eC, eCh, gLe, gI, rngB, h1, h2]
    · simp [eAnd, eL, gCall, aC, aN, eV, R.bind, m__law_whole, Br.run, st0, b__law_whole, sRet, SR.of, SR.val, eNot, gIsi, tyD, tyNames, isiB, truD, eC, eCh, gLe, gI, rngB, h1]
  | ref n => cases h
  | gl n => cases h
  | ty n => cases h
  | _ => rfl
theorem number_ok {d : D} (h : plainD d = true) (k : Int) (M : Mem) : m_is_number [d, .int k] M = .ok (.bl (rngB 0 (k - 1) d)) M := by
  unfold m_is_number
  refine run_go (ρ1 := [some d, some (.int k)]) ?_
  unfold b_is_number
  refine ret_ok ?_
  cases d with
  | int i =>
    by_cases h1 : 0 ≤ i
    · by_cases h2 : i < k
      · have h3 : i ≤ k - 1 := by omega
        simp [eAnd, eL, gCall, aC, aN, eV, R.bind, m_is_whole, Br.run, st0, b_is_whole, sRet, SR.of, SR.val, eNot, gIsi, tyD, tyNames, isiB, truD, eC, eCh, gLe, gLt, gI, rngB, h1, h2, h3]
      · have h3 : ¬ i ≤ k - 1 := by omega
        simp [eAnd, eL, gCall, aC, aN, eV, R.bind, m_is_whole, Br.run, st0, b_is_whole, sRet, SR.of, SR.val, eNot, gIsi, tyD, tyNames, isiB, truD, eC, eCh, gLe, gLt, gI, rngB, h1, h2, h3]
    · simp [eAnd, eL, gCall, aC, aN, eV, R.bind, m_is_whole, Br.run, st0, b_is_whole, sRet, SR.of, SR.val, eNot, gIsi, tyD, tyNames, isiB, truD, eC, eCh, gLe, gLt, gI, rngB, h1]
  | ref n => cases h
  | gl n => cases h
  | ty n => cases h
  | _ => rfl
/-- a comprehension of booleans over a tuple -/
theorem lc_bools {i : Nat} {te : FE} {ρ : En} {M : Mem} {f : D → Bool} : ∀ (xs acc : List D), (∀ x ∈ xs, te (ρ.set i (some x)) M = .ok (.bl (f x)) M) → acc.length + xs.length ≤ sizeLine →
    lcGo (gN i) tYesM te ρ xs acc M = .ok (acc ++ xs.map fun x => .bl (f x)) M
  | [], acc, _, _ => by simp [lcGo]
  | x :: xs, acc, h, hl => by
    unfold lcGo
    have h1 := h x (List.mem_cons_self ..)
    rw [List.length_cons] at hl
    simp only [gN, tYesM, h1]
    rw [if_pos (by omega), lc_bools xs _ (fun y hy => h y (List.mem_cons_of_mem _ hy)) (by rw [List.length_append, List.length_singleton]; omega)]
    simp
theorem bls_map (f : D → Bool) : ∀ xs : List D, blsOf (xs.map fun x => D.bl (f x)) = some (xs.map f)
  | [] => rfl
  | x :: xs => by simp [blsOf, bls_map f xs]
theorem all_lc {i : Nat} {e te : FE} {ρ : En} {M : Mem} {f : D → Bool} {xs : List D} (he : e ρ M = .ok (.tup xs) M) (h : ∀ x ∈ xs, te ((wipeE ρ [i]).set i (some x)) M = .ok (.bl (f x)) M) (hl : xs.length ≤ sizeLine) :
    (eL gAll (aC (eLcV [i] (wIt e) (gN i) tYesM te) aN)) ρ M = .ok (.bl (xs.all f)) M := by
  have h1 : eLcV [i] (wIt e) (gN i) tYesM te ρ M = .ok (.lst (xs.map fun x => .bl (f x))) M := by
    unfold eLcV wIt
    rw [he]
    dsimp only [R.bind, wkOf, lcW]
    rw [lc_bools xs [] h (by simpa using hl)]
    simp
  unfold eL aC
  rw [h1]
  dsimp only [R.bind, aN]
  unfold gAll gAllB
  dsimp only [seqL]
  simp [bls_map, List.all_map]
end LW
set_option Elab.async false
set_option linter.all false
set_option maxRecDepth 100000
set_option maxHeartbeats 4000000
namespace LW
open PySem PySem.Spec Br
/-- what is asked of a thing -/
structure Th (d : D) : Prop where
  ok : okD 50 d = true
  dp : dpD d ≤ 60
  wt : wtD d ≤ 10000
theorem th_plain {d : D} (h : Th d) : plainD d = true := plain_ok h.ok
theorem okDs_mem {B : Nat} : ∀ {xs : List D}, okDs B xs = true → ∀ x ∈ xs, okD B x = true
  | [], _, x, hx => by cases hx
  | y :: ys, h, x, hx => by
    have h' : okD B y = true ∧ okDs B ys = true := by simpa [okDs] using h
    rcases List.mem_cons.mp hx with rfl | hx
    · exact h'.1
    · exact okDs_mem h'.2 x hx
theorem dpDs_mem : ∀ {xs : List D} {x : D}, x ∈ xs → dpD x ≤ dpDs xs
  | y :: ys, x, hx => by
    unfold dpDs
    rcases List.mem_cons.mp hx with rfl | hx
    · omega
    · have := dpDs_mem hx; omega
theorem wtDs_mem : ∀ {xs : List D} {x : D}, x ∈ xs → wtD x ≤ wtDs xs
  | y :: ys, x, hx => by
    unfold wtDs
    rcases List.mem_cons.mp hx with rfl | hx
    · omega
    · have := wtDs_mem hx; omega
theorem wtDs_len : ∀ xs : List D, xs.length ≤ wtDs xs
  | [] => by simp [wtDs]
  | x :: xs => by have := wtDs_len xs; simp only [wtDs, List.length_cons]; omega
theorem Th.mem {xs : List D} (h : Th (.tup xs)) {x : D} (hx : x ∈ xs) : Th x := by
  have h1 : okDs 50 xs = true := by simpa [okD] using h.ok
  have h2 : dpDs xs + 1 ≤ 60 := by simpa [dpD] using h.dp
  have h3 : wtDs xs ≤ 10000 := by simpa [wtD] using h.wt
  have a := dpDs_mem hx
  have b := wtDs_mem hx
  exact ⟨okDs_mem h1 x hx, by omega, by omega⟩
theorem Th.len {xs : List D} (h : Th (.tup xs)) : xs.length ≤ 10000 := by
  have h3 : wtDs xs ≤ 10000 := by simpa [wtD] using h.wt
  exact Nat.le_trans (wtDs_len xs) h3
def lt2 : D → D → Bool
  | .int i, .int j => decide (i < j)
  | _, _ => false
def kindsB (k : Int) : D → Bool
  | .tup [x] => rngB 0 (k - 1) x
  | .tup [x, y] => rngB 0 (k - 1) x && (rngB 0 (k - 1) y && lt2 x y)
  | _ => false
def isTupB : D → Bool
  | .tup _ => true
  | _ => false
theorem is_tup {d : D} (h : plainD d = true) {ρ : En} {i : Nat} (M : Mem) (hr : ρ[i]? = some (some d)) : (eL gIsi (aC (eV i) (aC (eC (D.ty "tuple")) aN))) ρ M = .ok (.bl (isTupB d)) M := by
  have hv : eV i ρ M = .ok d M := by unfold eV; rw [hr]
  cases d <;> first | (cases h; done) | simp [eL, aC, aN, eC, R.bind, gIsi, tyD, tyNames, isiB, hv, isTupB]
theorem rng2 {k : Int} (hk : k = 1 ∨ k = 2) {x : D} (h : rngB 0 (k - 1) x = true) : x = .int 0 ∨ (x = .int 1 ∧ k = 2) := by
  cases x with
  | int i =>
    have h' : 0 ≤ i ∧ i ≤ k - 1 := by simpa [rngB] using h
    rcases hk with rfl | rfl
    · left; congr 1; omega
    · rcases (by omega : i = 0 ∨ i = 1) with rfl | rfl
      · exact .inl rfl
      · exact .inr ⟨rfl, rfl⟩
  | _ => cases h
theorem kinds_ok {d : D} (h : Th d) {k : Int} (hk : k = 1 ∨ k = 2) (M : Mem) : m_are_kinds [d, .int k] M = .ok (.bl (kindsB k d)) M := by
  unfold m_are_kinds
  refine run_go (ρ1 := [some d, some (.int k), none]) ?_
  show b_are_kinds [some d, some (.int k), none] M = _
  unfold b_are_kinds
  have hi := is_tup (ρ := [some d, some (.int k), none]) (i := 0) (th_plain h) M rfl
  have notup : (∀ xs, d ≠ .tup xs) → sSeq (sIf (tOr (tNot (tT (eL gIsi (aC (eV 0) (aC (eC (D.ty "tuple")) aN))))) (tNot (tT (eL gAll (aC (eLcV [2] (wIt (eV 0)) (gN 2) tYesM (eL (gCall 2 (fun ds _ => ds) m_is_number) (aC (eV 2) (aC (eV 1) aN)))) aN))))) (sRet (eC (D.bl false))) sNx)
    (sRet (eAnd (eCh gLe gLe (eC (D.int 1)) (eL gLen (aC (eV 0) aN)) (eV 1)) (eOr (Br.e2 gEq (eL gLen (aC (eV 0) aN)) (eC (D.int 1))) (Br.e2 gLt (Br.e2 gIx (eV 0) (eC (D.int 0))) (Br.e2 gIx (eV 0) (eC (D.int 1))))))) [some d, some (.int k), none] M = .go (.ret (.bl false)) [some d, some (.int k), none] M := fun hn => by
    refine go_ret (if_t (M1 := M) ?_ (ret_ok rfl))
    have hi2 : (eL gIsi (aC (eV 0) (aC (eC (D.ty "tuple")) aN))) [some d, some (.int k), none] M = .ok (.bl false) M := by
      rw [hi]
      cases d with
      | tup xs => exact absurd rfl (hn xs)
      | _ => rfl
    simp [tOr, tNot, tT, hi2, R.bind, truD]
  cases d with
  | tup xs =>
    have hall := all_lc (i := 2) (e := eV 0) (ρ := [some (.tup xs), some (.int k), none]) (M := M) (te := eL (gCall 2 (fun ds _ => ds) m_is_number) (aC (eV 2) (aC (eV 1) aN))) (f := rngB 0 (k - 1)) (xs := xs) rfl (fun x hx => by
      have := number_ok (th_plain (h.mem hx)) k M
      simp [wipeE, eL, aC, aN, eV, gCall, R.bind, this]) (Nat.le_trans h.len (by decide))
    by_cases ha : xs.all (rngB 0 (k - 1)) = true
    · rw [ha] at hall
      refine go_step (if_f (M1 := M) ?_ rfl) ?_
      · simp [tOr, tNot, tT, hi, hall, R.bind, truD, isTupB]
      · refine ret_ok ?_
        match xs, ha with
        | [], _ => rcases hk with rfl | rfl <;> rfl
        | [x], ha =>
          have h1 : rngB 0 (k - 1) x = true := by simpa using ha
          rcases rng2 hk h1 with rfl | ⟨rfl, rfl⟩
          · rcases hk with rfl | rfl <;> rfl
          · rfl
        | [x, y], ha =>
          have h1 : rngB 0 (k - 1) x = true ∧ rngB 0 (k - 1) y = true := by simpa using ha
          rcases rng2 hk h1.1 with rfl | ⟨rfl, rfl⟩
          · rcases rng2 hk h1.2 with rfl | ⟨rfl, rfl⟩
            · rcases hk with rfl | rfl <;> rfl
            · rfl
          · rcases rng2 (.inr rfl) h1.2 with rfl | ⟨rfl, _⟩ <;> rfl
        | x :: y :: z :: r, _ =>
          have h3 : ¬ ((r.length : Int) + 1 + 1 + 1 ≤ k) := by rcases hk with rfl | rfl <;> omega
          have h4 : (1 : Int) ≤ (r.length : Int) + 1 + 1 + 1 := by omega
          simp [eAnd, eCh, eC, eL, aC, aN, eV, gLen, seqA, R.bind, gLe, gI, h3, h4, truD, kindsB]
    · have ha2 : xs.all (rngB 0 (k - 1)) = false := by simpa using ha
      rw [ha2] at hall
      have hk2 : kindsB k (.tup xs) = false := by
        match xs, ha2 with
        | [], _ => rfl
        | [x], h => simpa [kindsB] using h
        | [x, y], h =>
          have : ¬ (rngB 0 (k - 1) x = true ∧ rngB 0 (k - 1) y = true) := by simpa using h
          cases h5 : rngB 0 (k - 1) x
          · simp [kindsB, h5]
          · cases h6 : rngB 0 (k - 1) y
            · simp [kindsB, h6]
            · exact absurd ⟨h5, h6⟩ this
        | x :: y :: z :: r, _ => rfl
      rw [hk2]
      refine go_ret (if_t (M1 := M) ?_ (ret_ok rfl))
      simp [tOr, tNot, tT, hi, hall, R.bind, truD, isTupB]
  | _ => exact notup (fun xs e => by cases e)
end LW
set_option Elab.async false
set_option linter.all false
set_option maxRecDepth 100000
set_option maxHeartbeats 4000000
namespace LW
open PySem PySem.Spec Br
theorem eqvAll_len : ∀ {l1 l2 : List PyData}, l1.length ≠ l2.length → PyData.eqvAll l1 l2 = false
  | [], [], h => absurd rfl h
  | [], _ :: _, _ => rfl
  | _ :: _, [], _ => rfl
  | x :: xs, y :: ys, h => by
    have : PyData.eqvAll (x :: xs) (y :: ys) = (PyData.eqv x y && PyData.eqvAll xs ys) := rfl
    rw [this, eqvAll_len (fun e => h (by rw [List.length_cons, List.length_cons, e])), Bool.and_false]
theorem eqv_tup {l1 l2 : List PyData} (h : l1.length ≠ l2.length) : PyData.eqv (.tuple l1) (.tuple l2) = false := eqvAll_len h
theorem in_tup {M : Mem} {d : D} {p : PyData} (ys : List D) (qs : List PyData) (h : PyOk d p) (hd : dpD d ≤ 60) (hns : ∀ z, d ≠ .str z) (hq : toPyR (fun _ => none) (.tup ys) = some (.tuple qs)) (hs : SeqAt.shaped (.tuple qs) = true) :
    inD M d (.tup ys) = some (qs.any fun z => PyData.eqv z p) := by
  have h1 := toPy_ok' h M
  have h2 : toPy M (.tup ys) = some (.tuple qs) := toPyR_mono _ _ _ hq
  have h3 := shaped_ok h (by omega)
  unfold inD
  cases d with
  | str z => exact absurd rfl (hns z)
  | _ => dsimp only; rw [h1, h2]; dsimp only; rw [h3, hs]; rfl
theorem lkinds_ok {d : D} (h : Th d) {k : Int} (hk : k = 1 ∨ k = 2) (M : Mem) : m__law_are_kinds [d, .int k] M = .ok (.bl (kindsB k d)) M := by
  unfold m__law_are_kinds
  refine run_go (ρ1 := [some d, some (.int k), none]) ?_
  show b__law_are_kinds [some d, some (.int k), none] M = _
  unfold b__law_are_kinds
  have hi := is_tup (ρ := [some d, some (.int k), none]) (i := 0) (th_plain h) M rfl
  by_cases hn : ∃ xs, d = .tup xs
  · obtain ⟨xs, rfl⟩ := hn
    have hall := all_lc (i := 2) (e := eV 0) (ρ := [some (.tup xs), some (.int k), none]) (M := M) (te := eL (gCall 3 (fun ds _ => ds) m__law_among) (aC (eV 2) (aC (eC (D.int 0)) (aC (Br.e2 gSub (eV 1) (eC (D.int 1))) aN)))) (f := rngB 0 (k - 1)) (xs := xs) rfl (fun x hx => by
      have := among_ok (th_plain (h.mem hx)) 0 (k - 1) M
      simp [wipeE, eL, aC, aN, eV, eC, Br.e2, gSub, gCall, R.bind, this]) (Nat.le_trans h.len (by decide))
    by_cases ha : xs.all (rngB 0 (k - 1)) = true
    · rw [ha] at hall
      refine go_step (if_f (M1 := M) ?_ rfl) ?_
      · simp [tOr, tNot, tT, hi, hall, R.bind, truD, isTupB]
      · refine ret_ok ?_
        obtain ⟨p, hp⟩ := okD_py (by decide) (by decide) _ h.ok
        have hin := in_tup (M := M) [.tup [.int 0], .tup [.int 1], .tup [.int 0, .int 1]] [.tuple [.int 0], .tuple [.int 1], .tuple [.int 0, .int 1]] hp h.dp (fun z e => by cases e) rfl rfl
        have hval : (Br.e2 (gIn false) (eV 0) (eL gTup (aC (eL gTup (aC (eC (D.int 0)) aN)) (aC (eL gTup (aC (eC (D.int 1)) aN)) (aC (eL gTup (aC (eC (D.int 0)) (aC (eC (D.int 1)) aN))) aN))))) [some (.tup xs), some (.int k), none] M =
            gIn false (.tup xs) (.tup [.tup [.int 0], .tup [.int 1], .tup [.int 0, .int 1]]) M := rfl
        rw [hval]
        unfold gIn
        rw [hin]
        dsimp only
        rw [if_neg (by decide)]
        congr 2
        have hpy := hp.py
        match xs, ha with
        | [], _ => cases hpy; rcases hk with rfl | rfl <;> rfl
        | [x], ha =>
          have h1 : rngB 0 (k - 1) x = true := by simpa using ha
          rcases rng2 hk h1 with rfl | ⟨rfl, rfl⟩
          · cases hpy; rcases hk with rfl | rfl <;> rfl
          · cases hpy; rfl
        | [x, y], ha =>
          have h1 : rngB 0 (k - 1) x = true ∧ rngB 0 (k - 1) y = true := by simpa using ha
          rcases rng2 hk h1.1 with rfl | ⟨rfl, rfl⟩
          · rcases rng2 hk h1.2 with rfl | ⟨rfl, rfl⟩
            · cases hpy; rcases hk with rfl | rfl <;> rfl
            · cases hpy; rfl
          · rcases rng2 (.inr rfl) h1.2 with rfl | ⟨rfl, _⟩ <;> (cases hpy; rfl)
        | x :: y :: z :: r, _ =>
          have : ∃ a b c s, p = .tuple (a :: b :: c :: s) := by
            unfold toPyR at hpy
            cases e : toPysR (fun _ => none) (x :: y :: z :: r) with
            | none => rw [e] at hpy; cases hpy
            | some ps =>
              rw [e] at hpy
              cases hpy
              unfold toPysR at e
              cases e1 : toPyR (fun _ => none) x with
              | none => rw [e1] at e; cases e
              | some a =>
                cases e2 : toPysR (fun _ => none) (y :: z :: r) with
                | none => rw [e1, e2] at e; cases e
                | some l =>
                  rw [e1, e2] at e; cases e
                  unfold toPysR at e2
                  cases e3 : toPyR (fun _ => none) y with
                  | none => rw [e3] at e2; cases e2
                  | some b =>
                    cases e4 : toPysR (fun _ => none) (z :: r) with
                    | none => rw [e3, e4] at e2; cases e2
                    | some l2 =>
                      rw [e3, e4] at e2; cases e2
                      unfold toPysR at e4
                      cases e5 : toPyR (fun _ => none) z with
                      | none => rw [e5] at e4; cases e4
                      | some c =>
                        cases e6 : toPysR (fun _ => none) r with
                        | none => rw [e5, e6] at e4; cases e4
                        | some l3 => rw [e5, e6] at e4; cases e4; exact ⟨a, b, c, l3, rfl⟩
          obtain ⟨a, b, c, s, rfl⟩ := this
          simp only [List.any_cons, List.any_nil, Bool.or_false]
          rw [eqv_tup (by simp), eqv_tup (by simp), eqv_tup (by simp)]
          rfl
    · have ha2 : xs.all (rngB 0 (k - 1)) = false := by simpa using ha
      rw [ha2] at hall
      have hk2 : kindsB k (.tup xs) = false := by
        match xs, ha2 with
        | [], _ => rfl
        | [x], h => simpa [kindsB] using h
        | [x, y], h =>
          have : ¬ (rngB 0 (k - 1) x = true ∧ rngB 0 (k - 1) y = true) := by simpa using h
          cases h5 : rngB 0 (k - 1) x
          · simp [kindsB, h5]
          · cases h6 : rngB 0 (k - 1) y
            · simp [kindsB, h6]
            · exact absurd ⟨h5, h6⟩ this
        | x :: y :: z :: r, _ => rfl
      rw [hk2]
      refine go_ret (if_t (M1 := M) ?_ (ret_ok rfl))
      simp [tOr, tNot, tT, hi, hall, R.bind, truD, isTupB]
  · have e1 : isTupB d = false := by cases d <;> first | rfl | exact absurd ⟨_, rfl⟩ hn
    have e2 : kindsB k d = false := by cases d <;> first | rfl | exact absurd ⟨_, rfl⟩ hn
    rw [e1] at hi
    rw [e2]
    refine go_ret (if_t (M1 := M) ?_ (ret_ok rfl))
    simp [tOr, tNot, tT, hi, R.bind, truD]
def argsB (a : Int) : D → Bool
  | .tup xs => decide ((xs.length : Int) = a) && xs.all (rngB 0 (a - 1))
  | _ => false
theorem args_ok {d : D} (h : Th d) (a : Int) (M : Mem) : m_are_arguments [d, .int a] M = .ok (.bl (argsB a d)) M := by
  unfold m_are_arguments
  refine run_go (ρ1 := [some d, some (.int a), none]) ?_
  show b_are_arguments [some d, some (.int a), none] M = _
  unfold b_are_arguments
  refine ret_ok ?_
  have hi := is_tup (ρ := [some d, some (.int a), none]) (i := 0) (th_plain h) M rfl
  by_cases hn : ∃ xs, d = .tup xs
  · obtain ⟨xs, rfl⟩ := hn
    have hall := all_lc (i := 2) (e := eV 0) (ρ := [some (.tup xs), some (.int a), none]) (M := M) (te := eL (gCall 2 (fun ds _ => ds) m_is_number) (aC (eV 2) (aC (eV 1) aN))) (f := rngB 0 (a - 1)) (xs := xs) rfl (fun x hx => by
      have := number_ok (th_plain (h.mem hx)) a M
      simp [wipeE, eL, aC, aN, eV, gCall, R.bind, this]) (Nat.le_trans h.len (by decide))
    have hlen : (Br.e2 gEq (eL gLen (aC (eV 0) aN)) (eV 1)) [some (.tup xs), some (.int a), none] M = .ok (.bl (decide ((xs.length : Int) = a))) M := by
      simp [Br.e2, eL, aC, aN, eV, gLen, seqA, R.bind, gEq, eqD]
    by_cases h1 : (xs.length : Int) = a
    · rw [decide_eq_true h1] at hlen
      simp [eAnd, hi, hlen, hall, R.bind, truD, isTupB, argsB, h1]
    · rw [decide_eq_false h1] at hlen
      simp [eAnd, hi, hlen, R.bind, truD, isTupB, argsB, h1]
  · have e1 : isTupB d = false := by cases d <;> first | rfl | exact absurd ⟨_, rfl⟩ hn
    have e2 : argsB a d = false := by cases d <;> first | rfl | exact absurd ⟨_, rfl⟩ hn
    rw [e1] at hi
    rw [e2]
    simp [eAnd, hi, R.bind, truD]
end LW
set_option Elab.async false
set_option linter.all false
set_option maxRecDepth 100000
set_option maxHeartbeats 4000000
namespace LW
open PySem PySem.Spec Br
theorem cV_t {f : FE} {g : FStm} {rest : D → FStm} {d y : D} {ρ : En} {M M1 : Mem} {r : SR} (h : f ρ M = .ok y M1) (e : eqD M1 d y = some true) (k : g ρ M1 = r) : cV f g rest d ρ M = r := by
  unfold cV; rw [h]; dsimp only [SR.of]; rw [e]; exact k
theorem cV_f {f : FE} {g : FStm} {rest : D → FStm} {d y : D} {ρ : En} {M M1 : Mem} {r : SR} (h : f ρ M = .ok y M1) (e : eqD M1 d y = some false) (k : rest d ρ M1 = r) : cV f g rest d ρ M = r := by
  unfold cV; rw [h]; dsimp only [SR.of]; rw [e]; exact k
theorem match_ok {f : FE} {g : D → FStm} {ρ : En} {M M1 : Mem} {d : D} {r : SR} (h : f ρ M = .ok d M1) (k : g d ρ M1 = r) : sMatch f g ρ M = r := by
  unfold sMatch; rw [h]; exact k
theorem call1 {m : FL} {a : FE} {ρ : En} {M : Mem} {x : D} {r : R D} (h : a ρ M = .ok x M) (k : m [x] M = r) : (eL (gCall 1 (fun ds _ => ds) m) (aC a aN)) ρ M = r := by
  simp [eL, aC, aN, h, gCall, R.bind, k]
theorem call2 {m : FL} {a b : FE} {ρ : En} {M : Mem} {x y : D} {r : R D} (h : a ρ M = .ok x M) (h2 : b ρ M = .ok y M) (k : m [x, y] M = r) : (eL (gCall 2 (fun ds _ => ds) m) (aC a (aC b aN))) ρ M = r := by
  simp [eL, aC, aN, h, h2, gCall, R.bind, k]
theorem call3 {m : FL} {a b c : FE} {ρ : En} {M : Mem} {x y z : D} {r : R D} (h : a ρ M = .ok x M) (h2 : b ρ M = .ok y M) (h3 : c ρ M = .ok z M) (k : m [x, y, z] M = r) : (eL (gCall 3 (fun ds _ => ds) m) (aC a (aC b (aC c aN)))) ρ M = r := by
  simp [eL, aC, aN, h, h2, h3, gCall, R.bind, k]
theorem call4 {m : FL} {a b c e : FE} {ρ : En} {M : Mem} {x y z u : D} {r : R D} (h : a ρ M = .ok x M) (h2 : b ρ M = .ok y M) (h3 : c ρ M = .ok z M) (h4 : e ρ M = .ok u M) (k : m [x, y, z, u] M = r) : (eL (gCall 4 (fun ds _ => ds) m) (aC a (aC b (aC c (aC e aN))))) ρ M = r := by
  simp [eL, aC, aN, h, h2, h3, h4, gCall, R.bind, k]
def itemB (c : Str) (a k : Int) (d : D) : Bool :=
  if c = "K" then kindsB k d else if c = "A" then argsB a d else if c = "C" then rngB 0 (k - 1) d else if c = "V" then rngB 0 9 d else if c = "Z" then rngB 0 2 d else rngB 1 2 d
theorem eqs {M : Mem} {x y : Str} {b : Bool} (h : decide (x = y) = b) : eqD M (.str x) (.str y) = some b := by
  rw [← h]; rfl
theorem item_ok {d : D} (h : Th d) (c : Str) {a k : Int} (hk : k = 1 ∨ k = 2) (M : Mem) : m_is_item [.str c, d, .int a, .int k] M = .ok (.bl (itemB c a k d)) M := by
  unfold m_is_item
  refine run_go (ρ1 := [some (.str c), some d, some (.int a), some (.int k)]) ?_
  show b_is_item [some (.str c), some d, some (.int a), some (.int k)] M = _
  unfold b_is_item
  refine match_ok rfl ?_
  unfold itemB
  by_cases h1 : c = "K"
  · rw [if_pos h1]; exact cV_t rfl (eqs (decide_eq_true h1)) (ret_ok (call2 rfl rfl (kinds_ok h hk M)))
  rw [if_neg h1]; refine cV_f rfl (eqs (decide_eq_false h1)) ?_
  by_cases h2 : c = "A"
  · rw [if_pos h2]; exact cV_t rfl (eqs (decide_eq_true h2)) (ret_ok (call2 rfl rfl (args_ok h a M)))
  rw [if_neg h2]; refine cV_f rfl (eqs (decide_eq_false h2)) ?_
  by_cases h3 : c = "C"
  · rw [if_pos h3]; exact cV_t rfl (eqs (decide_eq_true h3)) (ret_ok (call2 rfl rfl (number_ok (th_plain h) k M)))
  rw [if_neg h3]; refine cV_f rfl (eqs (decide_eq_false h3)) ?_
  by_cases h4 : c = "V"
  · rw [if_pos h4]; exact cV_t rfl (eqs (decide_eq_true h4)) (ret_ok (call2 rfl rfl (number_ok (th_plain h) 10 M)))
  rw [if_neg h4]; refine cV_f rfl (eqs (decide_eq_false h4)) ?_
  by_cases h5 : c = "Z"
  · rw [if_pos h5]; exact cV_t rfl (eqs (decide_eq_true h5)) (ret_ok (call2 rfl rfl (number_ok (th_plain h) 3 M)))
  rw [if_neg h5]; refine cV_f rfl (eqs (decide_eq_false h5)) ?_
  refine ret_ok ?_
  cases d with
  | int i =>
    by_cases g1 : 1 ≤ i
    · by_cases g2 : i ≤ 2 <;> simp [eAnd, eL, gCall, aC, aN, eV, R.bind, m_is_whole, Br.run, st0, b_is_whole, sRet, SR.of, SR.val, eNot, gIsi, tyD, tyNames, isiB, truD, eC, eCh, gLe, gLt, gI, rngB, g1, g2]
    · simp [eAnd, eL, gCall, aC, aN, eV, R.bind, m_is_whole, Br.run, st0, b_is_whole, sRet, SR.of, SR.val, eNot, gIsi, tyD, tyNames, isiB, truD, eC, eCh, gLe, gLt, gI, rngB, g1]
  | ref n => exact absurd (th_plain h) (by simp [plainD])
  | gl n => exact absurd (th_plain h) (by simp [plainD])
  | ty n => exact absurd (th_plain h) (by simp [plainD])
  | _ => rfl
end LW
set_option Elab.async false
set_option linter.all false
set_option maxRecDepth 100000
set_option maxHeartbeats 4000000
namespace LW
open PySem PySem.Spec Br
theorem lc_boolsG {gg : FG} {te : FE} {ρ : En} {M : Mem} {f : D → Bool} : ∀ (xs acc : List D), (∀ x ∈ xs, ∃ ρ1, gg x ρ M = .go .nx ρ1 M ∧ te ρ1 M = .ok (.bl (f x)) M) → acc.length + xs.length ≤ sizeLine →
    lcGo gg tYesM te ρ xs acc M = .ok (acc ++ xs.map fun x => .bl (f x)) M
  | [], acc, _, _ => by simp [lcGo]
  | x :: xs, acc, h, hl => by
    unfold lcGo
    obtain ⟨ρ1, h0, h1⟩ := h x (List.mem_cons_self ..)
    rw [List.length_cons] at hl
    simp only [h0, tYesM, h1]
    rw [if_pos (by omega), lc_boolsG xs _ (fun y hy => h y (List.mem_cons_of_mem _ hy)) (by rw [List.length_append, List.length_singleton]; omega)]
    simp
theorem all_lcW {vs : List Nat} {fw : En → Mem → R Wk} {gg : FG} {te : FE} {ρ : En} {M : Mem} {f : D → Bool} {xs : List D} (he : fw ρ M = .ok (.items xs) M) (h : ∀ x ∈ xs, ∃ ρ1, gg x (wipeE ρ vs) M = .go .nx ρ1 M ∧ te ρ1 M = .ok (.bl (f x)) M) (hl : xs.length ≤ sizeLine) :
    (eL gAll (aC (eLcV vs fw gg tYesM te) aN)) ρ M = .ok (.bl (xs.all f)) M := by
  have h1 : eLcV vs fw gg tYesM te ρ M = .ok (.lst (xs.map fun x => .bl (f x))) M := by
    unfold eLcV
    rw [he]
    dsimp only [R.bind, lcW]
    rw [lc_boolsG xs [] h (by simpa using hl)]
    simp
  unfold eL aC
  rw [h1]
  dsimp only [R.bind, aN]
  unfold gAll gAllB
  dsimp only [seqL]
  simp [bls_map, List.all_map]
theorem eq_nil {xs : List D} (h : Th (.tup xs)) (M : Mem) : eqD M (.tup xs) (.tup []) = some (decide (xs = [])) := by
  obtain ⟨p, hp⟩ := okD_py (by decide) (by decide) _ h.ok
  have h1 := toPy_ok' hp M
  have h2 : toPy M (.tup []) = some (.tuple []) := rfl
  have h3 := shaped_ok hp (by have := h.dp; omega)
  unfold eqD
  dsimp only
  rw [h1, h2]
  dsimp only
  rw [h3]
  have h4 : SeqAt.shaped (.tuple []) = true := rfl
  rw [h4]
  rw [if_pos (by rfl)]
  congr 1
  have hpy := hp.py
  cases xs with
  | nil => cases hpy; rfl
  | cons x xs =>
    unfold toPyR at hpy
    cases e : toPysR (fun _ => none) (x :: xs) with
    | none => rw [e] at hpy; cases hpy
    | some ps =>
      rw [e] at hpy
      cases hpy
      unfold toPysR at e
      cases e1 : toPyR (fun _ => none) x with
      | none => rw [e1] at e; cases e
      | some a =>
        cases e2 : toPysR (fun _ => none) xs with
        | none => rw [e1, e2] at e; cases e
        | some l => rw [e1, e2] at e; cases e; rfl
def isStrB : D → Bool
  | .str _ => true
  | _ => false
theorem is_str {d : D} (h : plainD d = true) {ρ : En} {e : FE} (M : Mem) (hv : e ρ M = .ok d M) : (eL gIsi (aC e (aC (eC (D.ty "str")) aN))) ρ M = .ok (.bl (isStrB d)) M := by
  cases d <;> first | (cases h; done) | simp [eL, aC, aN, eC, R.bind, gIsi, tyD, tyNames, isiB, hv, isStrB]
theorem ix0 {ρ : En} {i : Nat} {M : Mem} {x : D} {xs : List D} (h : ρ[i]? = some (some (.tup (x :: xs))) ∨ ρ[i]? = some (some (.lst (x :: xs)))) : (Br.e2 gIx (eV i) (eC (D.int 0))) ρ M = .ok x M := by
  rcases h with h | h <;> simp [Br.e2, eV, h, eC, R.bind, gIx, seqA, seqL, L2.atI, L2.ixN]
theorem ix1 {ρ : En} {i : Nat} {M : Mem} {x y : D} {xs : List D} (h : ρ[i]? = some (some (.tup (x :: y :: xs))) ∨ ρ[i]? = some (some (.lst (x :: y :: xs)))) : (Br.e2 gIx (eV i) (eC (D.int 1))) ρ M = .ok y M := by
  have h1 : (1 : Int) < (xs.length : Int) + 1 + 1 := by omega
  rcases h with h | h <;> simp [Br.e2, eV, h, eC, R.bind, gIx, seqA, seqL, L2.atI, L2.ixN, h1]
def pairB (a k : Int) : D → Bool
  | .tup [.str c, y] => itemB c a k y
  | _ => false
def neqB : List D → Bool
  | [.int i, .int j] => decide (i ≠ j)
  | _ => true
def isF (a k : Int) (n : Str) (xs : List D) : Bool := match kv_FORMS.lookup n with
  | none => false
  | some form => decide (xs.length = form.cps.size) && ((zipSD form xs).all (pairB a k) && (decide (n ≠ "rename") || neqB xs))
def isL (a k : Int) : D → Bool
  | .tup (.str n :: xs) => isF a k n xs
  | _ => false
theorem Th.tail {x : D} {xs : List D} (h : Th (.tup (x :: xs))) : xs.length ≤ 10000 := by
  have := h.len
  rw [List.length_cons] at this; omega
theorem zip_mem {c : Str} {x : D} {xs : List D} (h : x ∈ zipSD c xs) : ∃ s y, x = .tup [.str s, y] ∧ y ∈ xs := by
  unfold zipSD at h
  obtain ⟨p, hp, rfl⟩ := List.mem_map.mp h
  exact ⟨_, _, rfl, (List.of_mem_zip hp).2⟩
theorem lookup_mem2 {n form : Str} : ∀ {l : List (Str × Str)}, l.lookup n = some form → (n, form) ∈ l
  | p :: l, h => by
    rw [List.lookup_cons] at h
    split at h
    · rename_i hz
      cases h
      rw [eq_of_beq hz]; exact List.mem_cons_self ..
    · exact List.mem_cons_of_mem _ (lookup_mem2 h)
theorem form_len {n : Str} {form : Str} (h : kv_FORMS.lookup n = some form) : form.cps.size ≤ 3 ∧ form.length ≤ sizeLine ∧ (n = "rename" → form = "CC") := by
  have hm := lookup_mem2 h
  have key : ∀ p ∈ kv_FORMS, p.2.cps.size ≤ 3 ∧ p.2.length ≤ 3 := by decide +kernel
  obtain ⟨h1, h2⟩ := key _ hm
  refine ⟨h1, Nat.le_trans h2 (by decide), fun e => ?_⟩
  subst e
  have : kv_FORMS.lookup ("rename" : Str) = some ("CC" : Str) := by decide +kernel
  rw [this] at h
  exact (Option.some.inj h).symm
theorem layer_ok {d : D} (h : Th d) {a k : Int} (hk : k = 1 ∨ k = 2) (M : Mem) : m_is_layer [d, .int a, .int k] M = .ok (.bl (isL a k d)) M := by
  unfold m_is_layer
  have hi := is_tup (ρ := [some d, some (.int a), some (.int k), none, none, none, none, none]) (i := 0) (th_plain h) M rfl
  by_cases hn : ∃ xs, d = .tup xs
  case neg =>
    have e1 : isTupB d = false := by cases d <;> first | rfl | exact absurd ⟨_, rfl⟩ hn
    have e2 : isL a k d = false := by cases d <;> first | rfl | exact absurd ⟨_, rfl⟩ hn
    rw [e1] at hi
    rw [e2]
    refine run_go (ρ1 := [some d, some (.int a), some (.int k), none, none, none, none, none]) ?_
    show b_is_layer [some d, some (.int a), some (.int k), none, none, none, none, none] M = _
    unfold b_is_layer
    refine go_ret (if_t (M1 := M) ?_ (ret_ok rfl))
    simp [tOr, tNot, tT, hi, R.bind, truD]
  case pos =>
    obtain ⟨xs, rfl⟩ := hn
    have heq : Br.tC (Br.e2 gEq (eV 0) (eL gTup aN)) [some (.tup xs), some (.int a), some (.int k), none, none, none, none, none] M = .ok (decide (xs = [])) M := by
      have : (Br.e2 gEq (eV 0) (eL gTup aN)) [some (.tup xs), some (.int a), some (.int k), none, none, none, none, none] M = gEq (.tup xs) (.tup []) M := rfl
      unfold Br.tC; rw [this]; unfold gEq; rw [eq_nil h]; rfl
    have hi' : (eL gIsi (aC (eV 0) (aC (eC (D.ty "tuple")) aN))) [some (.tup xs), some (.int a), some (.int k), none, none, none, none, none] M = .ok (.bl true) M := hi
    cases xs with
    | nil =>
      refine run_go (ρ1 := [some (.tup []), some (.int a), some (.int k), none, none, none, none, none]) ?_
      show b_is_layer [some (.tup []), some (.int a), some (.int k), none, none, none, none, none] M = _
      unfold b_is_layer
      refine go_ret (if_t (M1 := M) ?_ (ret_ok rfl))
      simp [tOr, tNot, tT, hi', heq, R.bind, truD]
    | cons x xs =>
      have hx := h.mem (List.mem_cons_self ..)
      have hs := is_str (e := Br.e2 gIx (eV 0) (eC (D.int 0))) (ρ := [some (.tup (x :: xs)), some (.int a), some (.int k), none, none, none, none, none]) (th_plain hx) M (ix0 (.inl rfl))
      by_cases hn : ∃ n, x = .str n
      case neg =>
        have e1 : isStrB x = false := by cases x <;> first | rfl | exact absurd ⟨_, rfl⟩ hn
        have e2 : isL a k (.tup (x :: xs)) = false := by cases x <;> first | rfl | exact absurd ⟨_, rfl⟩ hn
        rw [e1] at hs
        rw [e2]
        refine run_go (ρ1 := [some (.tup (x :: xs)), some (.int a), some (.int k), none, none, none, none, none]) ?_
        show b_is_layer [some (.tup (x :: xs)), some (.int a), some (.int k), none, none, none, none, none] M = _
        unfold b_is_layer
        refine go_ret (if_t (M1 := M) ?_ (ret_ok rfl))
        simp [tOr, tNot, tT, hi', heq, hs, R.bind, truD]
      case pos =>
        obtain ⟨n, rfl⟩ := hn
        have hs' : (eL gIsi (aC (Br.e2 gIx (eV 0) (eC (D.int 0))) (aC (eC (D.ty "str")) aN))) [some (.tup (.str n :: xs)), some (.int a), some (.int k), none, none, none, none, none] M = .ok (.bl true) M := hs
        have hin : Br.tC (Br.e2 (gInK "FORMS" kv_FORMS true) (Br.e2 gIx (eV 0) (eC (D.int 0))) (eC (D.gl "FORMS"))) [some (.tup (.str n :: xs)), some (.int a), some (.int k), none, none, none, none, none] M = .ok (!(kv_FORMS.lookup n).isSome) M := by
          have e0 := ix0 (ρ := [some (.tup (.str n :: xs)), some (.int a), some (.int k), none, none, none, none, none]) (i := 0) (M := M) (x := .str n) (xs := xs) (.inl rfl)
          have e1 : (Br.e2 (gInK "FORMS" kv_FORMS true) (Br.e2 gIx (eV 0) (eC (D.int 0))) (eC (D.gl "FORMS"))) [some (.tup (.str n :: xs)), some (.int a), some (.int k), none, none, none, none, none] M = .ok (.bl (!(kv_FORMS.lookup n).isSome)) M := by
            show (R.bind _ _) = _
            rw [e0]; rfl
          unfold Br.tC; rw [e1]; rfl
        show Br.run b_is_layer 8 [.tup (.str n :: xs), .int a, .int k] M = R.ok (D.bl (isF a k n xs)) M
        unfold isF
        cases hl : kv_FORMS.lookup n with
        | none =>
          rw [hl] at hin
          refine run_go (ρ1 := [some (.tup (.str n :: xs)), some (.int a), some (.int k), none, none, none, none, none]) ?_
          show b_is_layer [some (.tup (.str n :: xs)), some (.int a), some (.int k), none, none, none, none, none] M = _
          unfold b_is_layer
          refine go_ret (if_t (M1 := M) ?_ (ret_ok rfl))
          simp [tOr, tNot, tT, hi', heq, hs', hin, R.bind, truD]
        | some form =>
          rw [hl] at hin
          obtain ⟨hf1, hf2, hf3⟩ := form_len hl
          have hxl := h.tail
          have hxl2 : xs.length < 16384 := by omega
          have hall := all_lcW (vs := [6, 7]) (fw := wZipS (aC (eV 5) (aC (eV 4) aN))) (gg := gTp 2 (gsC (gN 6) (gsC (gN 7) gsN))) (te := eL (gCall 4 (fun ds _ => ds) m_is_item) (aC (eV 6) (aC (eV 7) (aC (eV 1) (aC (eV 2) aN))))) (M := M) (f := pairB a k) (xs := zipSD form xs)
            (ρ := [some (.tup (.str n :: xs)), some (.int a), some (.int k), some (.str n), some (.lst xs), some (.str form), none, none])
          have hlen : Br.tC (Br.e2 gNe (eL gLen (aC (eV 4) aN)) (eL gLen (aC (eV 5) aN))) [some (.tup (.str n :: xs)), some (.int a), some (.int k), some (.str n), some (.lst xs), some (.str form), none, none] M = .ok (!decide (xs.length = form.cps.size)) M := by
            have : (xs.length : Int) = (form.length : Int) ↔ xs.length = form.cps.size := by
              rw [show form.length = form.cps.size from rfl]; omega
            simp [Br.tC, Br.e2, eL, aC, aN, eV, gLen, seqA, seqL, R.bind, gNe, eqD, hf2, this]
          have hst : sAsgT (eV 0) (gStar (gsC (gN 3) (gsC (gN 4) gsN))) [some (.tup (.str n :: xs)), some (.int a), some (.int k), none, none, none, none, none] M = .go .nx [some (.tup (.str n :: xs)), some (.int a), some (.int k), some (.str n), some (.lst xs), none, none, none] M := by
            simp [sAsgT, eV, SR.of, gStar, hxl2, gsC, gN, gsN, SR.then]
          have hfo : (Br.e2 (gIxK "FORMS" kv_FORMS) (eC (D.gl "FORMS")) (eV 3)) [some (.tup (.str n :: xs)), some (.int a), some (.int k), some (.str n), some (.lst xs), none, none, none] M = .ok (.str form) M := by
            simp [Br.e2, eC, eV, R.bind, gIxK, hl]
          have hg1 : (tOr (tNot (tT (eL gIsi (aC (eV 0) (aC (eC (D.ty "tuple")) aN))))) (tOr (Br.tC (Br.e2 gEq (eV 0) (eL gTup aN))) (tOr (tNot (tT (eL gIsi (aC (Br.e2 gIx (eV 0) (eC (D.int 0))) (aC (eC (D.ty "str")) aN))))) (Br.tC (Br.e2 (gInK "FORMS" kv_FORMS true) (Br.e2 gIx (eV 0) (eC (D.int 0))) (eC (D.gl "FORMS")))))))
              [some (.tup (.str n :: xs)), some (.int a), some (.int k), none, none, none, none, none] M = .ok false M := by
            simp [tOr, tNot, tT, hi', heq, hs', hin, R.bind, truD]
          dsimp only
          by_cases hle : xs.length = form.cps.size
          · have hz : (wZipS (aC (eV 5) (aC (eV 4) aN))) [some (.tup (.str n :: xs)), some (.int a), some (.int k), some (.str n), some (.lst xs), some (.str form), none, none] M = .ok (.items (zipSD form xs)) M := by
              simp [wZipS, aC, aN, eV, R.bind, hle]
            have hall2 := hall hz (fun x hx => by
              obtain ⟨c, y, rfl, hy⟩ := zip_mem hx
              exact ⟨[some (.tup (.str n :: xs)), some (.int a), some (.int k), some (.str n), some (.lst xs), some (.str form), some (.str c), some y], rfl, call4 rfl rfl rfl rfl (item_ok (h.mem (List.mem_cons_of_mem _ hy)) c hk M)⟩) (by
              have : (zipSD form xs).length = xs.length := by simp [zipSD, hle]
              rw [this]; exact Nat.le_trans hxl (by decide))
            rw [decide_eq_true hle] at hlen ⊢
            rw [Bool.true_and]
            by_cases hA : (zipSD form xs).all (pairB a k) = true
            · rw [hA] at hall2 ⊢
              rw [Bool.true_and]
              refine run_go (ρ1 := [some (.tup (.str n :: xs)), some (.int a), some (.int k), some (.str n), some (.lst xs), some (.str form), none, none]) ?_
              show b_is_layer [some (.tup (.str n :: xs)), some (.int a), some (.int k), none, none, none, none, none] M = _
              unfold b_is_layer
              refine go_step (if_f hg1 rfl) ?_
              refine go_step hst ?_
              refine go_step (asg_ok hfo) ?_
              refine go_step (if_f hlen rfl) ?_
              refine go_step (if_f (M1 := M) ?_ rfl) ?_
              · show (tNot (tT _)) [some (.tup (.str n :: xs)), some (.int a), some (.int k), some (.str n), some (.lst xs), some (.str form), none, none] M = _
                simp [tNot, tT, hall2, R.bind, truD]
              · refine ret_ok ?_
                show (eOr _ _) [some (.tup (.str n :: xs)), some (.int a), some (.int k), some (.str n), some (.lst xs), some (.str form), none, none] M = _
                by_cases hr : n = "rename"
                · have hfm := hf3 hr
                  subst hfm
                  have h2 : xs.length = 2 := hle
                  match xs, h2 with
                  | [u, v], _ =>
                    have hp : pairB a k (.tup [.str "C", u]) = true ∧ pairB a k (.tup [.str "C", v]) = true := by
                      have : zipSD "CC" [u, v] = [.tup [.str "C", u], .tup [.str "C", v]] := rfl
                      rw [this] at hA
                      simpa using hA
                    have hu : rngB 0 (k - 1) u = true := hp.1
                    have hv : rngB 0 (k - 1) v = true := hp.2
                    subst hr
                    cases u with
                    | int i =>
                      cases v with
                      | int j =>
                        have e0 := ix0 (ρ := [some (.tup (.str "rename" :: [.int i, .int j])), some (.int a), some (.int k), some (.str "rename"), some (.lst [.int i, .int j]), some (.str "CC"), none, none]) (i := 4) (M := M) (x := .int i) (xs := [.int j]) (.inr rfl)
                        have e1 := ix1 (ρ := [some (.tup (.str "rename" :: [.int i, .int j])), some (.int a), some (.int k), some (.str "rename"), some (.lst [.int i, .int j]), some (.str "CC"), none, none]) (i := 4) (M := M) (x := .int i) (y := .int j) (xs := []) (.inr rfl)
                        have e2 : (Br.e2 gNe (eV 3) (eC (D.str "rename"))) [some (.tup (.str "rename" :: [.int i, .int j])), some (.int a), some (.int k), some (.str "rename"), some (.lst [.int i, .int j]), some (.str "CC"), none, none] M = .ok (.bl false) M := rfl
                        have e3 : (Br.e2 gNe (Br.e2 gIx (eV 4) (eC (D.int 0))) (Br.e2 gIx (eV 4) (eC (D.int 1)))) [some (.tup (.str "rename" :: [.int i, .int j])), some (.int a), some (.int k), some (.str "rename"), some (.lst [.int i, .int j]), some (.str "CC"), none, none] M = .ok (.bl (!decide (i = j))) M := by
                          show (R.bind _ _) = _
                          rw [e0]; dsimp only [R.bind]; rw [e1]; rfl
                        simp [eOr, e2, e3, R.bind, truD, neqB]
                      | _ => cases hv
                    | _ => cases hu
                · have e2 : (Br.e2 gNe (eV 3) (eC (D.str "rename"))) [some (.tup (.str n :: xs)), some (.int a), some (.int k), some (.str n), some (.lst xs), some (.str form), none, none] M = .ok (.bl true) M := by
                    have : (Br.e2 gNe (eV 3) (eC (D.str "rename"))) [some (.tup (.str n :: xs)), some (.int a), some (.int k), some (.str n), some (.lst xs), some (.str form), none, none] M = .ok (.bl (!decide (n = "rename"))) M := rfl
                    rw [this, decide_eq_false hr]; rfl
                  simp [eOr, e2, R.bind, truD, hr]
            · have hA2 : (zipSD form xs).all (pairB a k) = false := by simpa using hA
              rw [hA2] at hall2 ⊢
              rw [Bool.false_and]
              refine run_go (ρ1 := [some (.tup (.str n :: xs)), some (.int a), some (.int k), some (.str n), some (.lst xs), some (.str form), none, none]) ?_
              show b_is_layer [some (.tup (.str n :: xs)), some (.int a), some (.int k), none, none, none, none, none] M = _
              unfold b_is_layer
              refine go_step (if_f hg1 rfl) ?_
              refine go_step hst ?_
              refine go_step (asg_ok hfo) ?_
              refine go_step (if_f hlen rfl) ?_
              refine go_ret (if_t (M1 := M) ?_ (ret_ok rfl))
              show (tNot (tT _)) [some (.tup (.str n :: xs)), some (.int a), some (.int k), some (.str n), some (.lst xs), some (.str form), none, none] M = _
              simp [tNot, tT, hall2, R.bind, truD]
          · rw [decide_eq_false hle] at hlen ⊢
            rw [Bool.false_and]
            refine run_go (ρ1 := [some (.tup (.str n :: xs)), some (.int a), some (.int k), some (.str n), some (.lst xs), some (.str form), none, none]) ?_
            show b_is_layer [some (.tup (.str n :: xs)), some (.int a), some (.int k), none, none, none, none, none] M = _
            unfold b_is_layer
            refine go_step (if_f hg1 rfl) ?_
            refine go_step hst ?_
            refine go_step (asg_ok hfo) ?_
            exact go_ret (if_t hlen (ret_ok rfl))
end LW
set_option Elab.async false
set_option linter.all false
set_option maxRecDepth 100000
set_option maxHeartbeats 4000000
namespace LW
open PySem PySem.Spec Br
theorem run_ex {b : FStm} {n : Nat} {ds : List D} {M M1 : Mem} {d : D} (h : ∃ ρ1, b (st0 n ds) M = .go (.ret d) ρ1 M1) : Br.run b n ds M = .ok d M1 := by
  obtain ⟨ρ1, h⟩ := h
  exact run_go h
theorem step_ex {a b : FStm} {ρ ρ1 : En} {M M1 M2 : Mem} {d : D} (h : a ρ M = .go .nx ρ1 M1) (k : ∃ ρ2, b ρ1 M1 = .go (.ret d) ρ2 M2) : ∃ ρ2, sSeq a b ρ M = .go (.ret d) ρ2 M2 := by
  obtain ⟨ρ2, k⟩ := k
  exact ⟨ρ2, go_step h k⟩
theorem any_str (n : Str) (ss : List Str) : ((ss.map PyData.str).any fun z => PyData.eqv z (.str n)) = ss.any (fun x => decide (x = n)) := by
  induction ss with
  | nil => rfl
  | cons x xs ih =>
    rw [List.map_cons, List.any_cons, List.any_cons, ih]
    congr 1
theorem toPys_strs (rs : Nat → Option PyData) : ∀ ss : List Str, toPysR rs (ss.map D.str) = some (ss.map PyData.str)
  | [] => rfl
  | x :: xs => by
    rw [List.map_cons]
    unfold toPysR
    rw [toPys_strs rs xs]
    rfl
theorem in_strs {M : Mem} {n : Str} {ss : List Str} (h : PyData.strOk n = true) (hs : SeqAt.shaped (.tuple (ss.map PyData.str)) = true) : inD M (.str n) (.tup (ss.map D.str)) = some (ss.any (fun x => decide (x = n))) := by
  have h2 : toPy M (.tup (ss.map D.str)) = some (.tuple (ss.map PyData.str)) := by
    unfold toPy toPyR
    rw [toPys_strs]; rfl
  have h3 : SeqAt.shaped (.str n) = true := by
    unfold SeqAt.shaped
    have : (PyData.str n).canLay0 = PyData.strOk n := rfl
    rw [this, h]; rfl
  have h1 : toPy M (.str n) = some (.str n) := rfl
  unfold inD
  dsimp only
  rw [h1, h2]
  dsimp only
  rw [h3, hs, if_pos (by rfl), any_str]
theorem tc_of {f : FE} {ρ : En} {M M1 : Mem} {b : Bool} (h : f ρ M = .ok (.bl b) M1) : Br.tC f ρ M = .ok b M1 := by
  unfold Br.tC; rw [h]; rfl
theorem in_of {fa fb : FE} {ρ : En} {M : Mem} {x y : D} {b : Bool} (ha : fa ρ M = .ok x M) (hb : fb ρ M = .ok y M) (h : inD M x y = some b) : (Br.e2 (gIn false) fa fb) ρ M = .ok (.bl b) M := by
  unfold Br.e2; rw [ha]; dsimp only [R.bind]; rw [hb]; dsimp only; unfold gIn; rw [h]; rfl
theorem eq_of {fa fb : FE} {ρ : En} {M : Mem} {x y : D} {b : Bool} (ha : fa ρ M = .ok x M) (hb : fb ρ M = .ok y M) (h : eqD M x y = some b) : (Br.e2 gEq fa fb) ρ M = .ok (.bl b) M := by
  unfold Br.e2; rw [ha]; dsimp only [R.bind]; rw [hb]; dsimp only; unfold gEq; rw [h]
theorem ne_of' {fa fb : FE} {ρ : En} {M : Mem} {x y : D} {b : Bool} (ha : fa ρ M = .ok x M) (hb : fb ρ M = .ok y M) (h : eqD M x y = some b) : (Br.e2 gNe fa fb) ρ M = .ok (.bl (!b)) M := by
  unfold Br.e2; rw [ha]; dsimp only [R.bind]; rw [hb]; dsimp only; unfold gNe; rw [h]
theorem and_t {a b : FE} {ρ : En} {M M1 : Mem} {r : R D} (ha : a ρ M = .ok (.bl true) M1) (hb : b ρ M1 = r) : eAnd a b ρ M = r := by
  unfold eAnd; rw [ha]; exact hb
theorem and_f {a b : FE} {ρ : En} {M M1 : Mem} (ha : a ρ M = .ok (.bl false) M1) : eAnd a b ρ M = .ok (.bl false) M1 := by
  unfold eAnd; rw [ha]; rfl
theorem and_b {a b : FE} {ρ : En} {M : Mem} {p q : Bool} (ha : a ρ M = .ok (.bl p) M) (hb : b ρ M = .ok (.bl q) M) : eAnd a b ρ M = .ok (.bl (p && q)) M := by
  cases p
  · exact and_f ha
  · exact and_t ha hb
theorem len_of {i : Nat} {ρ : En} {M : Mem} {xs : List D} (h : ρ[i]? = some (some (.tup xs))) : (eL gLen (aC (eV i) aN)) ρ M = .ok (.int xs.length) M := by
  simp [eL, aC, aN, eV, h, gLen, seqA, R.bind]
theorem eqi {M : Mem} {x y : Int} : eqD M (.int x) (.int y) = some (decide (x = y)) := rfl
def limB (lo k : Int) : List D → Bool
  | [x, y] => rngB lo 2 x && rngB 0 (k - 1) y
  | _ => false
def kinB (lo hi k : Int) : List D → Bool
  | [x, y] => rngB lo hi x && kindsB k y
  | _ => false
def kB (a k : Int) (n : Str) (xs : List D) : Bool :=
  if n = "cache" then decide (xs = []) else if n = "once" then decide (xs = []) else
  if n = "stale" then (match xs with | [x] => kindsB k x | _ => false) else
  if n = "guard" then (match xs with | [x] => rngB 0 (k - 1) x | _ => false) else
  if n = "limit" then limB 0 k xs else
  if n = "depth" then limB 1 k xs else
  if n = "breaker" then (match xs with | [x, y, z] => rngB 1 2 x && (rngB 1 2 y && rngB 0 (k - 1) z) | _ => false) else
  if n = "retry" then kinB 1 2 k xs else
  if n = "swallow" then kinB 0 9 k xs else
  if n = "rename" then (match xs with | [x, y] => rngB 0 (k - 1) x && (rngB 0 (k - 1) y && neqB [x, y]) | _ => false) else
  if n = "lead" then (match xs with | [x] => argsB a x | _ => false) else false
def allB (a k : Int) : List Nat → List D → Bool
  | [], [] => true
  | c :: cs, x :: xs => itemB ⟨#[c]⟩ a k x && allB a k cs xs
  | _, _ => false
theorem zip_all (a k : Int) : ∀ (cs : List Nat) (xs : List D), (decide (xs.length = cs.length) && ((cs.zip xs).map fun p => D.tup [D.str ⟨#[p.1]⟩, p.2]).all (pairB a k)) = allB a k cs xs
  | [], [] => rfl
  | [], x :: xs => rfl
  | c :: cs, [] => rfl
  | c :: cs, x :: xs => by
    have ih := zip_all a k cs xs
    have e : decide ((x :: xs).length = (c :: cs).length) = decide (xs.length = cs.length) := by simp
    rw [e, List.zip_cons_cons, List.map_cons, List.all_cons]
    show _ = (itemB ⟨#[c]⟩ a k x && allB a k cs xs)
    rw [← ih]
    show (decide (xs.length = cs.length) && (itemB ⟨#[c]⟩ a k x && _)) = _
    cases decide (xs.length = cs.length) <;> cases itemB ⟨#[c]⟩ a k x <;> rfl
theorem isF_all {a k : Int} {n form : Str} (xs : List D) (h : kv_FORMS.lookup n = some form) (hn : n ≠ "rename") : isF a k n xs = allB a k form.cps.toList xs := by
  unfold isF
  rw [h]
  dsimp only
  rw [decide_eq_true hn, Bool.true_or, Bool.and_true, ← zip_all]
  rfl
theorem iK (a k : Int) (x : D) : itemB ⟨#[75]⟩ a k x = kindsB k x := by unfold itemB; rw [if_pos (by decide +kernel)]
theorem iA (a k : Int) (x : D) : itemB ⟨#[65]⟩ a k x = argsB a x := by unfold itemB; rw [if_neg (by decide +kernel), if_pos (by decide +kernel)]
theorem iC (a k : Int) (x : D) : itemB ⟨#[67]⟩ a k x = rngB 0 (k - 1) x := by unfold itemB; rw [if_neg (by decide +kernel), if_neg (by decide +kernel), if_pos (by decide +kernel)]
theorem iV (a k : Int) (x : D) : itemB ⟨#[86]⟩ a k x = rngB 0 9 x := by unfold itemB; rw [if_neg (by decide +kernel), if_neg (by decide +kernel), if_neg (by decide +kernel), if_pos (by decide +kernel)]
theorem iZ (a k : Int) (x : D) : itemB ⟨#[90]⟩ a k x = rngB 0 2 x := by unfold itemB; rw [if_neg (by decide +kernel), if_neg (by decide +kernel), if_neg (by decide +kernel), if_neg (by decide +kernel), if_pos (by decide +kernel)]
theorem iN (a k : Int) (x : D) : itemB ⟨#[78]⟩ a k x = rngB 1 2 x := by unfold itemB; rw [if_neg (by decide +kernel), if_neg (by decide +kernel), if_neg (by decide +kernel), if_neg (by decide +kernel), if_neg (by decide +kernel)]
theorem isF_kB (a k : Int) (n : Str) (xs : List D) : isF a k n xs = kB a k n xs := by
  unfold kB
  by_cases h : n = "cache"
  · rw [if_pos h, isF_all (form := "") xs (by subst h; decide +kernel) (by subst h; decide +kernel)]
    cases xs <;> rfl
  rw [if_neg h]
  by_cases h1 : n = "once"
  · rw [if_pos h1, isF_all (form := "") xs (by subst h1; decide +kernel) (by subst h1; decide +kernel)]
    cases xs <;> rfl
  rw [if_neg h1]
  by_cases h2 : n = "stale"
  · rw [if_pos h2, isF_all (form := "K") xs (by subst h2; decide +kernel) (by subst h2; decide +kernel)]
    show allB a k [75] xs = _
    match xs with
    | [] => rfl
    | [x] => simp [allB, iK]
    | x :: y :: r => simp [allB, limB, kinB]
  rw [if_neg h2]
  by_cases h3 : n = "guard"
  · rw [if_pos h3, isF_all (form := "C") xs (by subst h3; decide +kernel) (by subst h3; decide +kernel)]
    show allB a k [67] xs = _
    match xs with
    | [] => rfl
    | [x] => simp [allB, iC]
    | x :: y :: r => simp [allB, limB, kinB]
  rw [if_neg h3]
  by_cases h4 : n = "limit"
  · rw [if_pos h4, isF_all (form := "ZC") xs (by subst h4; decide +kernel) (by subst h4; decide +kernel)]
    show allB a k [90, 67] xs = _
    match xs with
    | [] => rfl
    | [x] => simp [allB, limB, kinB]
    | [x, y] => simp [allB, iZ, iC, limB]
    | x :: y :: z :: r => simp [allB, limB, kinB]
  rw [if_neg h4]
  by_cases h5 : n = "depth"
  · rw [if_pos h5, isF_all (form := "NC") xs (by subst h5; decide +kernel) (by subst h5; decide +kernel)]
    show allB a k [78, 67] xs = _
    match xs with
    | [] => rfl
    | [x] => simp [allB, limB, kinB]
    | [x, y] => simp [allB, iN, iC, limB]
    | x :: y :: z :: r => simp [allB, limB, kinB]
  rw [if_neg h5]
  by_cases h6 : n = "breaker"
  · rw [if_pos h6, isF_all (form := "NNC") xs (by subst h6; decide +kernel) (by subst h6; decide +kernel)]
    show allB a k [78, 78, 67] xs = _
    match xs with
    | [] => rfl
    | [x] => simp [allB, limB, kinB]
    | [x, y] => simp [allB, limB, kinB]
    | [x, y, z] => simp [allB, iN, iC, limB]
    | x :: y :: z :: u :: r => simp [allB, limB, kinB]
  rw [if_neg h6]
  by_cases h7 : n = "retry"
  · rw [if_pos h7, isF_all (form := "NK") xs (by subst h7; decide +kernel) (by subst h7; decide +kernel)]
    show allB a k [78, 75] xs = _
    match xs with
    | [] => rfl
    | [x] => simp [allB, limB, kinB]
    | [x, y] => simp [allB, iN, iK, kinB]
    | x :: y :: z :: r => simp [allB, limB, kinB]
  rw [if_neg h7]
  by_cases h8 : n = "swallow"
  · rw [if_pos h8, isF_all (form := "VK") xs (by subst h8; decide +kernel) (by subst h8; decide +kernel)]
    show allB a k [86, 75] xs = _
    match xs with
    | [] => rfl
    | [x] => simp [allB, limB, kinB]
    | [x, y] => simp [allB, iV, iK, kinB]
    | x :: y :: z :: r => simp [allB, limB, kinB]
  rw [if_neg h8]
  by_cases h9 : n = "rename"
  · rw [if_pos h9]
    unfold isF
    have hl : kv_FORMS.lookup n = some ("CC" : Str) := by subst h9; decide +kernel
    rw [hl]
    dsimp only
    have hn : decide (n ≠ "rename") = false := decide_eq_false (fun g => g h9)
    rw [hn, Bool.false_or, ← Bool.and_assoc]
    have := zip_all a k [67, 67] xs
    have e : (decide (xs.length = ("CC" : Str).cps.size) && (zipSD "CC" xs).all (pairB a k)) = allB a k [67, 67] xs := this
    rw [e]
    match xs with
    | [] => rfl
    | [x] => simp [allB, limB, kinB]
    | [x, y] => simp [allB, iC, Bool.and_assoc]
    | x :: y :: z :: r => simp [allB, limB, kinB]
  rw [if_neg h9]
  by_cases h10 : n = "lead"
  · rw [if_pos h10, isF_all (form := "A") xs (by subst h10; decide +kernel) (by subst h10; decide +kernel)]
    show allB a k [65] xs = _
    match xs with
    | [] => rfl
    | [x] => simp [allB, iA]
    | x :: y :: r => simp [allB, limB, kinB]
  rw [if_neg h10]
  unfold isF
  have hl : kv_FORMS.lookup n = none := by
    cases e : kv_FORMS.lookup n with
    | none => rfl
    | some form =>
      have hm := lookup_mem2 e
      simp [kv_FORMS] at hm
      simp_all
  rw [hl]
end LW
set_option Elab.async false
set_option linter.all false
set_option maxRecDepth 100000
set_option maxHeartbeats 4000000
namespace LW
open PySem PySem.Spec Br
theorem or_t {t u : FT} {ρ : En} {M M1 : Mem} (h : t ρ M = .ok true M1) : tOr t u ρ M = .ok true M1 := by unfold tOr; rw [h]; rfl
theorem or_f {t u : FT} {ρ : En} {M M1 : Mem} {r : R Bool} (h : t ρ M = .ok false M1) (k : u ρ M1 = r) : tOr t u ρ M = r := by unfold tOr; rw [h]; exact k
theorem not_b {f : FE} {ρ : En} {M M1 : Mem} {b : Bool} (h : f ρ M = .ok (.bl b) M1) : tNot (tT f) ρ M = .ok (!b) M1 := by unfold tNot tT; rw [h]; rfl
theorem is_tupE {d : D} (h : plainD d = true) {ρ : En} {e : FE} (M : Mem) (hv : e ρ M = .ok d M) : (eL gIsi (aC e (aC (eC (D.ty "tuple")) aN))) ρ M = .ok (.bl (isTupB d)) M := by
  cases d <;> first | (cases h; done) | simp [eL, aC, aN, eC, R.bind, gIsi, tyD, tyNames, isiB, hv, isTupB]
theorem sub1 {i : Nat} {k : Int} {ρ : En} {M : Mem} (h : ρ[i]? = some (some (.int k))) : (Br.e2 gSub (eV i) (eC (D.int 1))) ρ M = .ok (.int (k - 1)) M := by
  simp [Br.e2, eV, h, eC, R.bind, gSub]
theorem ixv {i j : Nat} {ρ : En} {M : Mem} {xs : List D} {x : D} (h : ρ[i]? = some (some (.tup xs))) (hx : xs[j]? = some x) : (Br.e2 gIx (eV i) (eC (D.int (j : Int)))) ρ M = .ok x M := by
  have hl := (List.getElem?_eq_some_iff.mp hx).1
  have h1 : (j : Int) < (xs.length : Int) := by omega
  simp [Br.e2, eV, h, eC, R.bind, gIx, seqA, L2.atI, L2.ixN, h1, hx]
theorem llayer_ok {d : D} (h : Th d) {a k : Int} (hk : k = 1 ∨ k = 2) (M : Mem) : m__law_is_layer [d, .int a, .int k] M = .ok (.bl (isL a k d)) M := by
  unfold m__law_is_layer
  have hi := is_tup (ρ := [some d, some (.int a), some (.int k), none, none, none, none, none, none]) (i := 0) (th_plain h) M rfl
  by_cases hn : ∃ xs, d = .tup xs
  case neg =>
    have e1 : isTupB d = false := by cases d <;> first | rfl | exact absurd ⟨_, rfl⟩ hn
    have e2 : isL a k d = false := by cases d <;> first | rfl | exact absurd ⟨_, rfl⟩ hn
    rw [e1] at hi
    rw [e2]
    refine run_ex ⟨[some d, some (.int a), some (.int k), none, none, none, none, none, none], ?_⟩
    show b__law_is_layer [some d, some (.int a), some (.int k), none, none, none, none, none, none] M = _
    unfold b__law_is_layer
    refine go_ret (if_t (M1 := M) ?_ (ret_ok rfl))
    simp [tOr, tNot, tT, hi, R.bind, truD]
  case pos =>
    obtain ⟨xs, rfl⟩ := hn
    have heq : Br.tC (Br.e2 gEq (eV 0) (eL gTup aN)) [some (.tup xs), some (.int a), some (.int k), none, none, none, none, none, none] M = .ok (decide (xs = [])) M := tc_of (eq_of rfl rfl (eq_nil h M))
    have hi' : (eL gIsi (aC (eV 0) (aC (eC (D.ty "tuple")) aN))) [some (.tup xs), some (.int a), some (.int k), none, none, none, none, none, none] M = .ok (.bl true) M := hi
    cases xs with
    | nil =>
      refine run_ex ⟨[some (.tup []), some (.int a), some (.int k), none, none, none, none, none, none], ?_⟩
      show b__law_is_layer [some (.tup []), some (.int a), some (.int k), none, none, none, none, none, none] M = _
      unfold b__law_is_layer
      refine go_ret (if_t (M1 := M) ?_ (ret_ok rfl))
      simp [tOr, tNot, tT, hi', heq, R.bind, truD]
    | cons x xs =>
      have hx := h.mem (List.mem_cons_self ..)
      have hs := is_str (e := Br.e2 gIx (eV 0) (eC (D.int 0))) (ρ := [some (.tup (x :: xs)), some (.int a), some (.int k), none, none, none, none, none, none]) (th_plain hx) M (ix0 (.inl rfl))
      by_cases hn : ∃ n, x = .str n
      case neg =>
        have e1 : isStrB x = false := by cases x <;> first | rfl | exact absurd ⟨_, rfl⟩ hn
        have e2 : isL a k (.tup (x :: xs)) = false := by cases x <;> first | rfl | exact absurd ⟨_, rfl⟩ hn
        rw [e1] at hs
        rw [e2]
        refine run_ex ⟨[some (.tup (x :: xs)), some (.int a), some (.int k), none, none, none, none, none, none], ?_⟩
        show b__law_is_layer [some (.tup (x :: xs)), some (.int a), some (.int k), none, none, none, none, none, none] M = _
        unfold b__law_is_layer
        refine go_ret (if_t (M1 := M) ?_ (ret_ok rfl))
        simp [tOr, tNot, tT, hi', heq, hs, R.bind, truD]
      case pos =>
        obtain ⟨n, rfl⟩ := hn
        have hs' : (eL gIsi (aC (Br.e2 gIx (eV 0) (eC (D.int 0))) (aC (eC (D.ty "str")) aN))) [some (.tup (.str n :: xs)), some (.int a), some (.int k), none, none, none, none, none, none] M = .ok (.bl true) M := hs
        have hso : PyData.strOk n = true := by simpa [okD] using hx.ok
        have hmem : ∀ y ∈ xs, Th y := fun y hy => h.mem (List.mem_cons_of_mem _ hy)
        have hgt : Th (.tup xs) := by
          have h1 : okD 50 (.str n) = true ∧ okDs 50 xs = true := by simpa [okD, okDs] using h.ok
          have h2 : dpDs (.str n :: xs) + 1 ≤ 60 := by simpa [dpD] using h.dp
          have h3 : wtDs (.str n :: xs) ≤ 10000 := by simpa [wtD] using h.wt
          unfold dpDs at h2
          unfold wtDs at h3
          refine ⟨by simpa [okD] using h1.2, ?_, ?_⟩
          · show dpDs xs + 1 ≤ 60; omega
          · show wtDs xs ≤ 10000; omega
        show Br.run b__law_is_layer 9 [.tup (.str n :: xs), .int a, .int k] M = R.ok (D.bl (isF a k n xs)) M
        rw [isF_kB]
        refine run_ex ?_
        show ∃ ρ1, b__law_is_layer [some (.tup (.str n :: xs)), some (.int a), some (.int k), none, none, none, none, none, none] M = _
        unfold b__law_is_layer
        refine step_ex (if_f (M1 := M) ?_ rfl) ?_
        · simp [tOr, tNot, tT, hi', heq, hs', R.bind, truD]
        have hsl : (eSl (eV 0) (oS (eC (D.int 1))) oN) [some (.tup (.str n :: xs)), some (.int a), some (.int k), none, none, none, none, none, none] M = .ok (.tup xs) M := by
          have : cutD (.str n :: xs) (some 1) none = xs := by
            unfold cutD
            have e1 : HT.sIx (D.str n :: xs).length 0 (some 1) = 1 := by
              show HT.sIx (D.str n :: xs).length 0 (some ((1 : Nat) : Int)) = 1
              rw [HT.sIx_nat, List.length_cons]; omega
            rw [e1, HT.sIx_none]
            simp
          simp [eSl, eV, R.bind, oS, oN, eC, gSl, this]
        refine step_ex (ρ1 := [some (.tup (.str n :: xs)), some (.int a), some (.int k), some (.str n), some (.tup xs), none, none, none, none]) (M1 := M) ?_ ?_
        · have e0 := ix0 (ρ := [some (.tup (.str n :: xs)), some (.int a), some (.int k), none, none, none, none, none, none]) (i := 0) (M := M) (x := .str n) (xs := xs) (.inl rfl)
          simp [sPar, aC, aN, e0, hsl, R.bind, SR.of]
        unfold kB
        generalize hρ : ([some (.tup (.str n :: xs)), some (.int a), some (.int k), some (.str n), some (.tup xs), none, none, none, none] : En) = ρ
        have v1 : eV 1 ρ M = .ok (.int a) M := by rw [← hρ]; rfl
        have v2 : eV 2 ρ M = .ok (.int k) M := by rw [← hρ]; rfl
        have v3 : eV 3 ρ M = .ok (.str n) M := by rw [← hρ]; rfl
        have v4 : eV 4 ρ M = .ok (.tup xs) M := by rw [← hρ]; rfl
        have r2 : ρ[2]? = some (some (.int k)) := by rw [← hρ]; rfl
        have r1 : ρ[1]? = some (some (.int a)) := by rw [← hρ]; rfl
        have r4 : ρ[4]? = some (some (.tup xs)) := by rw [← hρ]; rfl
        have hlen : ∀ c : Int, (Br.e2 gEq (eL gLen (aC (eV 4) aN)) (eC (D.int c))) ρ M = .ok (.bl (decide ((xs.length : Int) = c))) M := fun c => eq_of (len_of r4) rfl eqi
        have hlenN : ∀ c : Int, (Br.e2 gNe (eL gLen (aC (eV 4) aN)) (eC (D.int c))) ρ M = .ok (.bl (!decide ((xs.length : Int) = c))) M := fun c => ne_of' (len_of r4) rfl eqi
        have hins : ∀ (u v : Str), SeqAt.shaped (.tuple ([u, v].map PyData.str)) = true → Br.tC (Br.e2 (gIn false) (eV 3) (eL gTup (aC (eC (D.str u)) (aC (eC (D.str v)) aN)))) ρ M = .ok (decide (u = n) || (decide (v = n) || false)) M := fun u v hs => tc_of (in_of v3 rfl (in_strs hso hs))
        have heqs : ∀ u : Str, Br.tC (Br.e2 gEq (eV 3) (eC (D.str u))) ρ M = .ok (decide (n = u)) M := fun u => tc_of (eq_of v3 rfl (eqs rfl))
        have hret : ∀ {e : FE} {bb : Bool}, e ρ M = .ok (.bl bb) M → sRet e ρ M = .go (.ret (.bl bb)) ρ M := fun h => ret_ok h
        by_cases h1 : n = "cache"
        · rw [if_pos h1]
          have t1 := hins "cache" "once" (by decide +kernel)
          rw [decide_eq_true h1.symm, Bool.true_or] at t1
          exact ⟨ρ, go_ret (if_t t1 (hret (eq_of v4 rfl (eq_nil hgt M))))⟩
        rw [if_neg h1]
        by_cases h2 : n = "once"
        · rw [if_pos h2]
          have t1 := hins "cache" "once" (by decide +kernel)
          rw [decide_eq_true h2.symm, Bool.true_or, Bool.or_true] at t1
          exact ⟨ρ, go_ret (if_t t1 (hret (eq_of v4 rfl (eq_nil hgt M))))⟩
        rw [if_neg h2]
        refine step_ex (if_f (M1 := M) (by have t1 := hins "cache" "once" (by decide +kernel)
                                           rw [decide_eq_false (fun e => h1 e.symm), decide_eq_false (fun e => h2 e.symm)] at t1; exact t1) rfl) ?_
        by_cases h3 : n = "stale"
        · rw [if_pos h3]
          have t1 := heqs "stale"
          rw [decide_eq_true h3] at t1
          refine ⟨ρ, go_ret (if_t t1 (hret ?_))⟩
          match xs, hmem, r4, hlen with
          | [], _, _, hlen => exact and_f (hlen 1)
          | [x], hmem, r4, hlen => exact and_t (hlen 1) (call2 (ixv (j := 0) r4 rfl) v2 (lkinds_ok (hmem x (by simp)) hk M))
          | x :: y :: r, _, _, hlen =>
            have : decide (((x :: y :: r).length : Int) = 1) = false := decide_eq_false (by simp only [List.length_cons]; omega)
            have z := hlen 1
            rw [this] at z; exact and_f z
        rw [if_neg h3]
        refine step_ex (if_f (M1 := M) (by have t1 := heqs "stale"; rw [decide_eq_false h3] at t1; exact t1) rfl) ?_
        by_cases h4 : n = "guard"
        · rw [if_pos h4]
          have t1 := heqs "guard"
          rw [decide_eq_true h4] at t1
          refine ⟨ρ, go_ret (if_t t1 (hret ?_))⟩
          match xs, hmem, r4, hlen with
          | [], _, _, hlen => exact and_f (hlen 1)
          | [x], hmem, r4, hlen => exact and_t (hlen 1) (call3 (ixv (j := 0) r4 rfl) rfl (sub1 r2) (among_ok (th_plain (hmem x (by simp))) 0 (k - 1) M))
          | x :: y :: r, _, _, hlen =>
            have : decide (((x :: y :: r).length : Int) = 1) = false := decide_eq_false (by simp only [List.length_cons]; omega)
            have z := hlen 1
            rw [this] at z; exact and_f z
        rw [if_neg h4]
        refine step_ex (if_f (M1 := M) (by have t1 := heqs "guard"; rw [decide_eq_false h4] at t1; exact t1) rfl) ?_
        have hint : (eL gInt (aC (Br.e2 gEq (eV 3) (eC (D.str "depth"))) aN)) ρ M = .ok (.int (if n = "depth" then 1 else 0)) M := by
          have : (Br.e2 gEq (eV 3) (eC (D.str "depth"))) ρ M = .ok (.bl (decide (n = "depth"))) M := eq_of v3 rfl (eqs rfl)
          unfold eL aC
          rw [this]
          by_cases g : n = "depth"
          · rw [decide_eq_true g, if_pos g]; rfl
          · rw [decide_eq_false g, if_neg g]; rfl
        have hld : ∀ lo : Int, (eL gInt (aC (Br.e2 gEq (eV 3) (eC (D.str "depth"))) aN)) ρ M = .ok (.int lo) M → 
            (eAnd (Br.e2 gEq (eL gLen (aC (eV 4) aN)) (eC (D.int 2))) (eAnd (eL (gCall 3 (fun ds _ => ds) m__law_among) (aC (Br.e2 gIx (eV 4) (eC (D.int 0))) (aC (eL gInt (aC (Br.e2 gEq (eV 3) (eC (D.str "depth"))) aN)) (aC (eC (D.int 2)) aN)))) (eL (gCall 3 (fun ds _ => ds) m__law_among) (aC (Br.e2 gIx (eV 4) (eC (D.int 1))) (aC (eC (D.int 0)) (aC (Br.e2 gSub (eV 2) (eC (D.int 1))) aN)))))) ρ M = .ok (.bl (limB lo k xs)) M := by
          intro lo hlo
          match xs, hmem, r4, hlen with
          | [], _, _, hlen => exact and_f (hlen 2)
          | [x], _, _, hlen => exact and_f (hlen 2)
          | [x, y], hmem, r4, hlen => exact and_t (hlen 2) (and_b (call3 (ixv (j := 0) r4 rfl) hlo rfl (among_ok (th_plain (hmem x (by simp))) lo 2 M)) (call3 (ixv (j := 1) r4 rfl) rfl (sub1 r2) (among_ok (th_plain (hmem y (by simp))) 0 (k - 1) M)))
          | x :: y :: z :: r, _, _, hlen =>
            have : decide (((x :: y :: z :: r).length : Int) = 2) = false := decide_eq_false (by simp only [List.length_cons]; omega)
            have z := hlen 2
            rw [this] at z; exact and_f z
        by_cases h5 : n = "limit"
        · rw [if_pos h5]
          have t1 := hins "limit" "depth" (by decide +kernel)
          rw [decide_eq_true h5.symm, Bool.true_or] at t1
          have hd : ¬ n = "depth" := by subst h5; decide +kernel
          rw [if_neg hd] at hint
          exact ⟨ρ, go_ret (if_t t1 (hret (hld 0 hint)))⟩
        rw [if_neg h5]
        by_cases h6 : n = "depth"
        · rw [if_pos h6]
          have t1 := hins "limit" "depth" (by decide +kernel)
          rw [decide_eq_true h6.symm, Bool.true_or, Bool.or_true] at t1
          rw [if_pos h6] at hint
          exact ⟨ρ, go_ret (if_t t1 (hret (hld 1 hint)))⟩
        rw [if_neg h6]
        refine step_ex (if_f (M1 := M) (by have t1 := hins "limit" "depth" (by decide +kernel)
                                           rw [decide_eq_false (fun e => h5 e.symm), decide_eq_false (fun e => h6 e.symm)] at t1; exact t1) rfl) ?_
        by_cases h7 : n = "breaker"
        · rw [if_pos h7]
          have t1 := heqs "breaker"
          rw [decide_eq_true h7] at t1
          have two : ∀ z : Bool, True := fun _ => trivial
          match xs, hmem, r4, hlen, hρ with
          | [], _, _, hlen, _ => exact ⟨_, go_ret (if_t t1 (go_step (asg_ok (and_f (hlen 3))) (ret_ok (by subst hρ; rfl))))⟩
          | [x], _, _, hlen, _ => exact ⟨_, go_ret (if_t t1 (go_step (asg_ok (and_f (hlen 3))) (ret_ok (by subst hρ; rfl))))⟩
          | [x, y], _, _, hlen, _ => exact ⟨_, go_ret (if_t t1 (go_step (asg_ok (and_f (hlen 3))) (ret_ok (by subst hρ; rfl))))⟩
          | [x, y, z], hmem, r4, hlen, hρ =>
            have hv : (eAnd (Br.e2 gEq (eL gLen (aC (eV 4) aN)) (eC (D.int 3))) (eAnd (eL (gCall 3 (fun ds _ => ds) m__law_among) (aC (Br.e2 gIx (eV 4) (eC (D.int 0))) (aC (eC (D.int 1)) (aC (eC (D.int 2)) aN)))) (eL (gCall 3 (fun ds _ => ds) m__law_among) (aC (Br.e2 gIx (eV 4) (eC (D.int 1))) (aC (eC (D.int 1)) (aC (eC (D.int 2)) aN)))))) ρ M = .ok (.bl (rngB 1 2 x && rngB 1 2 y)) M :=
              and_t (hlen 3) (and_b (call3 (ixv (j := 0) r4 rfl) rfl rfl (among_ok (th_plain (hmem x (by simp))) 1 2 M)) (call3 (ixv (j := 1) r4 rfl) rfl rfl (among_ok (th_plain (hmem y (by simp))) 1 2 M)))
            refine ⟨_, go_ret (if_t t1 (go_step (asg_ok hv) (ret_ok ?_)))⟩
            have hb := and_b (a := eV 5) (ρ := ρ.set 5 (some (.bl (rngB 1 2 x && rngB 1 2 y)))) (M := M) (p := rngB 1 2 x && rngB 1 2 y) (q := rngB 0 (k - 1) z) (b := eL (gCall 3 (fun ds _ => ds) m__law_among) (aC (Br.e2 gIx (eV 4) (eC (D.int 2))) (aC (eC (D.int 0)) (aC (Br.e2 gSub (eV 2) (eC (D.int 1))) aN)))) (by rw [← hρ]; rfl)
              (call3 (ixv (j := 2) (xs := [x, y, z]) (by rw [← hρ]; rfl) rfl) rfl (sub1 (k := k) (by rw [← hρ]; rfl)) (among_ok (th_plain (hmem z (by simp))) 0 (k - 1) M))
            rw [Bool.and_assoc] at hb
            exact hb
          | x :: y :: z :: u :: r, _, _, hlen, hρ =>
            have : decide (((x :: y :: z :: u :: r).length : Int) = 3) = false := decide_eq_false (by simp only [List.length_cons]; omega)
            have z := hlen 3
            rw [this] at z
            exact ⟨_, go_ret (if_t t1 (go_step (asg_ok (and_f z)) (ret_ok (by subst hρ; rfl))))⟩
        rw [if_neg h7]
        refine step_ex (if_f (M1 := M) (by have t1 := heqs "breaker"; rw [decide_eq_false h7] at t1; exact t1) rfl) ?_
        have hkin : ∀ (lo up : Int), (eIf (Br.tC (Br.e2 gEq (eV 3) (eC (D.str "swallow")))) (eL gLst (aC (eC (D.int 0)) (aC (eC (D.int 9)) aN))) (eL gLst (aC (eC (D.int 1)) (aC (eC (D.int 2)) aN)))) ρ M = .ok (.lst [.int lo, .int up]) M →
            ∃ ρ2, (sSeq (sAsgT (eIf (Br.tC (Br.e2 gEq (eV 3) (eC (D.str "swallow")))) (eL gLst (aC (eC (D.int 0)) (aC (eC (D.int 9)) aN))) (eL gLst (aC (eC (D.int 1)) (aC (eC (D.int 2)) aN)))) (gTpA 2 (gsC (gN 6) (gsC (gN 7) gsN))))
              (sRet (eAnd (Br.e2 gEq (eL gLen (aC (eV 4) aN)) (eC (D.int 2))) (eAnd (eL (gCall 3 (fun ds _ => ds) m__law_among) (aC (Br.e2 gIx (eV 4) (eC (D.int 0))) (aC (eV 6) (aC (eV 7) aN)))) (eL (gCall 2 (fun ds _ => ds) m__law_are_kinds) (aC (Br.e2 gIx (eV 4) (eC (D.int 1))) (aC (eV 2) aN))))))) ρ M = .go (.ret (.bl (kinB lo up k xs))) ρ2 M := by
          intro lo up he
          have ha : sAsgT (eIf (Br.tC (Br.e2 gEq (eV 3) (eC (D.str "swallow")))) (eL gLst (aC (eC (D.int 0)) (aC (eC (D.int 9)) aN))) (eL gLst (aC (eC (D.int 1)) (aC (eC (D.int 2)) aN)))) (gTpA 2 (gsC (gN 6) (gsC (gN 7) gsN))) ρ M = .go .nx ((ρ.set 6 (some (.int lo))).set 7 (some (.int up))) M := by
            unfold sAsgT; rw [he]; rfl
          refine ⟨_, go_step ha (ret_ok ?_)⟩
          generalize hσ : ((ρ.set 6 (some (.int lo))).set 7 (some (.int up))) = σ
          have s4 : σ[4]? = some (some (.tup xs)) := by rw [← hσ, ← hρ]; rfl
          have s2 : eV 2 σ M = .ok (.int k) M := by rw [← hσ, ← hρ]; rfl
          have s6 : eV 6 σ M = .ok (.int lo) M := by rw [← hσ, ← hρ]; rfl
          have s7 : eV 7 σ M = .ok (.int up) M := by rw [← hσ, ← hρ]; rfl
          have hl2 : (Br.e2 gEq (eL gLen (aC (eV 4) aN)) (eC (D.int 2))) σ M = .ok (.bl (decide ((xs.length : Int) = 2))) M := eq_of (len_of s4) rfl eqi
          clear hρ ha he hlen hlenN hld
          match xs, hmem, s4, hl2 with
          | [], _, _, hl2 => exact and_f hl2
          | [x], _, _, hl2 => exact and_f hl2
          | [x, y], hmem, s4, hl2 => exact and_t hl2 (and_b (call3 (ixv (j := 0) s4 rfl) s6 s7 (among_ok (th_plain (hmem x (by simp))) lo up M)) (call2 (ixv (j := 1) s4 rfl) s2 (lkinds_ok (hmem y (by simp)) hk M)))
          | x :: y :: z :: r, _, _, hl2 =>
            have : decide (((x :: y :: z :: r).length : Int) = 2) = false := decide_eq_false (by simp only [List.length_cons]; omega)
            rw [this] at hl2; exact and_f hl2
        have hsw : (Br.tC (Br.e2 gEq (eV 3) (eC (D.str "swallow")))) ρ M = .ok (decide (n = "swallow")) M := heqs "swallow"
        by_cases h8 : n = "retry"
        · rw [if_pos h8]
          have t1 := hins "retry" "swallow" (by decide +kernel)
          rw [decide_eq_true h8.symm, Bool.true_or] at t1
          have hd : ¬ n = "swallow" := by subst h8; decide +kernel
          rw [decide_eq_false hd] at hsw
          obtain ⟨ρ2, z⟩ := hkin 1 2 (by unfold eIf; rw [hsw]; rfl)
          exact ⟨ρ2, go_ret (if_t t1 z)⟩
        rw [if_neg h8]
        by_cases h9 : n = "swallow"
        · rw [if_pos h9]
          have t1 := hins "retry" "swallow" (by decide +kernel)
          rw [decide_eq_true h9.symm, Bool.true_or, Bool.or_true] at t1
          rw [decide_eq_true h9] at hsw
          obtain ⟨ρ2, z⟩ := hkin 0 9 (by unfold eIf; rw [hsw]; rfl)
          exact ⟨ρ2, go_ret (if_t t1 z)⟩
        rw [if_neg h9]
        refine step_ex (if_f (M1 := M) (by have t1 := hins "retry" "swallow" (by decide +kernel)
                                           rw [decide_eq_false (fun e => h8 e.symm), decide_eq_false (fun e => h9 e.symm)] at t1; exact t1) rfl) ?_
        by_cases h10 : n = "rename"
        · rw [if_pos h10]
          have t1 := heqs "rename"
          rw [decide_eq_true h10] at t1
          match xs, hmem, r4, hlen, hρ with
          | [], _, _, hlen, _ => exact ⟨_, go_ret (if_t t1 (go_step (asg_ok (and_f (hlen 2))) (ret_ok (by subst hρ; rfl))))⟩
          | [x], _, _, hlen, _ => exact ⟨_, go_ret (if_t t1 (go_step (asg_ok (and_f (hlen 2))) (ret_ok (by subst hρ; rfl))))⟩
          | [x, y], hmem, r4, hlen, hρ =>
            have hv : (eAnd (Br.e2 gEq (eL gLen (aC (eV 4) aN)) (eC (D.int 2))) (eAnd (eL (gCall 3 (fun ds _ => ds) m__law_among) (aC (Br.e2 gIx (eV 4) (eC (D.int 0))) (aC (eC (D.int 0)) (aC (Br.e2 gSub (eV 2) (eC (D.int 1))) aN)))) (eL (gCall 3 (fun ds _ => ds) m__law_among) (aC (Br.e2 gIx (eV 4) (eC (D.int 1))) (aC (eC (D.int 0)) (aC (Br.e2 gSub (eV 2) (eC (D.int 1))) aN)))))) ρ M = .ok (.bl (rngB 0 (k - 1) x && rngB 0 (k - 1) y)) M :=
              and_t (hlen 2) (and_b (call3 (ixv (j := 0) r4 rfl) rfl (sub1 r2) (among_ok (th_plain (hmem x (by simp))) 0 (k - 1) M)) (call3 (ixv (j := 1) r4 rfl) rfl (sub1 r2) (among_ok (th_plain (hmem y (by simp))) 0 (k - 1) M)))
            refine ⟨_, go_ret (if_t t1 (go_step (asg_ok hv) (ret_ok ?_)))⟩
            have g5 : eV 5 (ρ.set 5 (some (.bl (rngB 0 (k - 1) x && rngB 0 (k - 1) y)))) M = .ok (.bl (rngB 0 (k - 1) x && rngB 0 (k - 1) y)) M := by rw [← hρ]; rfl
            show _ = R.ok (D.bl (rngB 0 (k - 1) x && (rngB 0 (k - 1) y && neqB [x, y]))) M
            rw [← Bool.and_assoc]
            by_cases hb : (rngB 0 (k - 1) x && rngB 0 (k - 1) y) = true
            · rw [hb] at g5 ⊢
              have hb2 : rngB 0 (k - 1) x = true ∧ rngB 0 (k - 1) y = true := by simpa using hb
              cases x with
              | int i =>
                cases y with
                | int j =>
                  have g4 : (ρ.set 5 (some (.bl true)))[4]? = some (some (.tup [.int i, .int j])) := by rw [← hρ]; rfl
                  have hne := ne_of' (ixv (j := 0) (M := M) g4 rfl) (ixv (j := 1) (M := M) g4 rfl) eqi
                  have e : (true && neqB [.int i, .int j]) = !decide (i = j) := by simp [neqB]
                  rw [e]
                  exact and_t g5 hne
                | _ => exact absurd hb2.2 (by simp [rngB])
              | _ => exact absurd hb2.1 (by simp [rngB])
            · have hb2 : (rngB 0 (k - 1) x && rngB 0 (k - 1) y) = false := by simpa using hb
              rw [hb2] at g5 ⊢
              exact and_f g5
          | x :: y :: z :: r, _, _, hlen, hρ =>
            have : decide (((x :: y :: z :: r).length : Int) = 2) = false := decide_eq_false (by simp only [List.length_cons]; omega)
            have z := hlen 2
            rw [this] at z
            exact ⟨_, go_ret (if_t t1 (go_step (asg_ok (and_f z)) (ret_ok (by subst hρ; rfl))))⟩
        rw [if_neg h10]
        refine step_ex (if_f (M1 := M) (by have t1 := heqs "rename"; rw [decide_eq_false h10] at t1; exact t1) rfl) ?_
        have hneq : (Br.tC (Br.e2 gNe (eV 3) (eC (D.str "lead")))) ρ M = .ok (!decide (n = "lead")) M := tc_of (ne_of' v3 rfl (eqs rfl))
        by_cases h11 : n = "lead"
        · rw [if_pos h11]
          rw [decide_eq_true h11] at hneq
          have tn := fun c => tc_of (hlenN c)
          match xs, hmem, r4, tn, hρ with
          | [], _, _, tn, _ => exact ⟨ρ, go_ret (if_t (M1 := M) (or_f hneq (or_t (tn 1))) (ret_ok rfl))⟩
          | [x], hmem, r4, tn, hρ =>
            have hxx := hmem x (by simp)
            have gx := ixv (j := 0) (M := M) r4 (show ([x] : List D)[0]? = some x from rfl)
            have gt := is_tupE (th_plain hxx) M gx
            show ∃ ρ1, _ = SR.go (.ret (.bl (argsB a x))) ρ1 M
            by_cases hz : ∃ zs, x = .tup zs
            · obtain ⟨zs, rfl⟩ := hz
              have gl : (eL gLen (aC (Br.e2 gIx (eV 4) (eC (D.int ((0 : Nat) : Int)))) aN)) ρ M = .ok (.int zs.length) M := by
                unfold eL aC
                rw [gx]; rfl
              have gn := tc_of (ne_of' gl v1 eqi)
              by_cases hla : (zs.length : Int) = a
              · rw [decide_eq_true hla] at gn
                refine step_ex (if_f (or_f hneq (or_f (tn 1) (or_f (not_b gt) gn))) rfl) ?_
                have hall := all_lc (i := 8) (e := Br.e2 gIx (eV 4) (eC (D.int 0))) (ρ := ρ) (M := M) (te := eL (gCall 3 (fun ds _ => ds) m__law_among) (aC (eV 8) (aC (eC (D.int 0)) (aC (Br.e2 gSub (eV 1) (eC (D.int 1))) aN)))) (f := rngB 0 (a - 1)) (xs := zs) gx (fun z hz => by
                  refine call3 (x := z) ?_ rfl (sub1 (k := a) ?_) (among_ok (th_plain (hxx.mem hz)) 0 (a - 1) M)
                  · rw [← hρ]; rfl
                  · rw [← hρ]; rfl) (Nat.le_trans hxx.len (by decide))
                refine ⟨ρ, ret_ok ?_⟩
                rw [hall]
                simp [argsB, hla]
              · rw [decide_eq_false hla] at gn
                have : argsB a (.tup zs) = false := by simp [argsB, hla]
                rw [this]
                exact ⟨ρ, go_ret (if_t (or_f hneq (or_f (tn 1) (or_f (not_b gt) gn))) (ret_ok rfl))⟩
            · have e1 : isTupB x = false := by cases x <;> first | rfl | exact absurd ⟨_, rfl⟩ hz
              have e2 : argsB a x = false := by cases x <;> first | rfl | exact absurd ⟨_, rfl⟩ hz
              rw [e1] at gt
              rw [e2]
              exact ⟨ρ, go_ret (if_t (or_f hneq (or_f (tn 1) (or_t (not_b gt)))) (ret_ok rfl))⟩
          | x :: y :: r, _, _, tn, _ =>
            have : decide (((x :: y :: r).length : Int) = 1) = false := decide_eq_false (by simp only [List.length_cons]; omega)
            have z := tn 1
            rw [this] at z
            exact ⟨ρ, go_ret (if_t (or_f hneq (or_t z)) (ret_ok rfl))⟩
        · rw [if_neg h11]
          rw [decide_eq_false h11] at hneq
          exact ⟨ρ, go_ret (if_t (M1 := M) (by unfold tOr; rw [hneq]; rfl) (ret_ok rfl))⟩
end LW
set_option Elab.async false
set_option linter.all false
set_option maxRecDepth 100000
set_option maxHeartbeats 4000000
namespace LW
open PySem PySem.Spec Br
/-- a bag's list -/
def bag (a b c : Int) : MO := .lst [.int a, .int b, .int c]
theorem take_ok {M : Mem} {n : Nat} {a b c m : Int} (h : M[n]? = some (bag a b c)) (ha : 0 ≤ a) (hb : 0 ≤ b) (hb2 : b < 2 ^ 61) (hc : 0 ≤ c) (hc2 : c < 2 ^ 31) (hm : 0 < m) (hm2 : m < 2 ^ 40) :
    ∃ d a' c' : Int, 0 ≤ d ∧ d < m ∧ 0 ≤ a' ∧ 0 ≤ c' ∧ c' ≤ c + 1 ∧ m__law_take [.ref n, .int m] M = .ok (.int d) (M.set n (bag a' b c')) := by
  have hn : n < M.length := (List.getElem?_eq_some_iff.mp h).1
  unfold bag at h
  have hm3 : m < 18446744073709551616 := by omega
  by_cases h0 : 0 < a
  · refine ⟨a % m, a / m, c, Int.emod_nonneg _ (by omega), Int.emod_lt_of_pos _ hm, Int.ediv_nonneg ha (by omega), hc, by omega, ?_⟩
    unfold m__law_take b__law_take bag
    simp [Br.run, st0, sSeq, sIf, sAsg, sAsgT, gSb, sPar, sDrop, eAppend, eK, Br.tC, tT, truD, e1, e2, eL, aC, aN, eV, eC, eIf, gIx, seqA, seqL, L2.atI, L2.ixN, gGt, gLt, gGe, gLe, gI, gMod, gN, gFdiv, gAdd, gSub, gMul', gMul, gPow, gNeg, gAbs, gLen, gMax, gMin, setD, sRet, SR.then, SR.val, R.bind, SR.of, sNx, gCall, gTup, gLst, gNew, gAppend, gCatN, gCatV, pk, sizeLine, h, h0, hm, hm3]
  · have hmul : ∀ j : Int, mulOk 1000033 j = true := fun j => mulOk_l (by decide) (by decide)
    have hmul2 : ∀ j : Int, mulOk 15485917 j = true := fun j => mulOk_l (by decide) (by decide)
    have hp1 : (b + 1000033 * (c + 1)).natAbs < 1606938044258990275541962092341162602522202993782792835301376 := by omega
    have hr0 : 0 ≤ (b + 1000033 * (c + 1)) ^ 3 % 2305843009213693921 := Int.emod_nonneg _ (by decide)
    have hr1 : (b + 1000033 * (c + 1)) ^ 3 % 2305843009213693921 < 2305843009213693921 := Int.emod_lt_of_pos _ (by decide)
    have hp2 : ((b + 1000033 * (c + 1)) ^ 3 % 2305843009213693921 + 15485917 * (c + 1)).natAbs < 1606938044258990275541962092341162602522202993782792835301376 := by omega
    refine ⟨((b + 1000033 * (c + 1)) ^ 3 % 2305843009213693921 + 15485917 * (c + 1)) ^ 2 % 2305843009213693951 / 2048 % m, a, c + 1, Int.emod_nonneg _ (by omega), Int.emod_lt_of_pos _ hm, ha, by omega, by omega, ?_⟩
    have hs : (M.set n (MO.lst [D.int a, D.int b, D.int (c + 1)]))[n]? = some (MO.lst [D.int a, D.int b, D.int (c + 1)]) := by simp [hn]
    unfold m__law_take b__law_take bag
    simp [Br.run, st0, sSeq, sIf, sAsg, sAsgT, gSb, sPar, sDrop, eAppend, eK, Br.tC, tT, truD, e1, e2, eL, aC, aN, eV, eC, eIf, gIx, seqA, seqL, L2.atI, L2.ixN, gGt, gLt, gGe, gLe, gI, gMod, gN, gFdiv, gAdd, gSub, gMul', gMul, gPow, gNeg, gAbs, gLen, gMax, gMin, setD, sRet, SR.then, SR.val, R.bind, SR.of, sNx, gCall, gTup, gLst, gNew, gAppend, gCatN, gCatV, pk, sizeLine, h, h0, hm, hm3, hs, hmul, hmul2, hp1, hp2]
/-- a bag with bounds -/
structure Bag (M : Mem) (n : Nat) (b c : Int) : Prop where
  lt : n < M.length
  at_ : ∃ a c', M[n]? = some (bag a b c') ∧ 0 ≤ a ∧ 0 ≤ c' ∧ c' ≤ c
  b0 : 0 ≤ b
  b1 : b < 2 ^ 61
theorem Bag.take {M : Mem} {n : Nat} {b c m : Int} (h : Bag M n b c) (hc2 : c < 2 ^ 31) (hm : 0 < m) (hm2 : m < 2 ^ 40) :
    ∃ (d : Int) (M' : Mem), 0 ≤ d ∧ d < m ∧ m__law_take [.ref n, .int m] M = .ok (.int d) M' ∧ M'.length = M.length ∧ (∀ i, i ≠ n → M'[i]? = M[i]?) ∧ Bag M' n b (c + 1) := by
  obtain ⟨a, c', h1, h2, h3, h4⟩ := h.at_
  obtain ⟨d, a', c'', g1, g2, g3, g4, g5, g6⟩ := take_ok h1 h2 h.b0 h.b1 h3 (by omega) hm hm2
  have hl := h.lt
  exact ⟨d, _, g1, g2, g6, List.length_set .., fun i hi => List.getElem?_set_ne fun e => hi e.symm, ⟨by rw [List.length_set]; exact h.lt, ⟨a', c'', by simp [h.lt], g3, g4, by omega⟩, h.b0, h.b1⟩⟩
/-- a new bag -/
theorem bag_new (ns : List Int) (M : Mem) (i : Nat) (hi : i < 64) : ∃ b M', m__law_bag [scriptD ns, .int i] M = .ok (.ref M.length) M' ∧ M'.length = M.length + 1 ∧ (∀ j, j < M.length → M'[j]? = M[j]?) ∧ Bag M' M.length b 0 := by
  have hm : ∀ x : Int, mulOk x 5103497 = true := fun x => mulOk_r (by decide) (by decide)
  have hm2 : ∀ x : Int, mulOk 8221 x = true := fun x => mulOk_l (by decide) (by decide)
  have key : ∃ (a : Int) (b : Int), 0 ≤ a ∧ 0 ≤ b ∧ b < 2 ^ 61 ∧ m__law_bag [scriptD ns, .int i] M = .ok (.ref M.length) (M ++ [bag a b 0]) := by
    obtain ⟨x, hx⟩ : ∃ x : Int, (eIf (Br.tC (Br.e2 gLt (eV 1) (eL gLen (aC (eV 0) aN)))) (Br.e2 gIx (eV 0) (eV 1)) (eC (D.int 0))) [some (scriptD ns), some (.int i), none, none] M = .ok (.int x) M := by
      by_cases hl : i < ns.length
      · exact ⟨ns[i], by simp [Br.run, st0, sSeq, sIf, sAsg, sAsgT, gSb, sPar, sDrop, eAppend, eK, Br.tC, tT, truD, e1, e2, eL, aC, aN, eV, eC, eIf, gIx, seqA, seqL, L2.atI, L2.ixN, gGt, gLt, gGe, gLe, gI, gMod, gN, gFdiv, gAdd, gSub, gMul', gMul, gPow, gNeg, gAbs, gLen, gMax, gMin, setD, sRet, SR.then, SR.val, R.bind, SR.of, sNx, gCall, gTup, gLst, gNew, gAppend, gCatN, gCatV, pk, sizeLine, hl, scriptD]⟩
      · exact ⟨0, by simp [Br.run, st0, sSeq, sIf, sAsg, sAsgT, gSb, sPar, sDrop, eAppend, eK, Br.tC, tT, truD, e1, e2, eL, aC, aN, eV, eC, eIf, gIx, seqA, seqL, L2.atI, L2.ixN, gGt, gLt, gGe, gLe, gI, gMod, gN, gFdiv, gAdd, gSub, gMul', gMul, gPow, gNeg, gAbs, gLen, gMax, gMin, setD, sRet, SR.then, SR.val, R.bind, SR.of, sNx, gCall, gTup, gLst, gNew, gAppend, gCatN, gCatV, pk, sizeLine, hl, scriptD]⟩
    have hy : ∃ y : Int, 0 ≤ y ∧ (eIf (Br.tC (Br.e2 gGe (eL gAbs (aC (eV 2) aN)) (Br.e2 gPow (eC (D.int 10)) (eC (D.int 18))))) (eL gAbs (aC (eV 2) aN)) (eC (D.int 0))) [some (scriptD ns), some (.int i), some (.int x), none] M = .ok (.int y) M := by
      by_cases hl : (1000000000000000000 : Int) ≤ (if x < 0 then -x else x)
      · exact ⟨if x < 0 then -x else x, by split <;> omega, by simp [Br.run, st0, sSeq, sIf, sAsg, sAsgT, gSb, sPar, sDrop, eAppend, eK, Br.tC, tT, truD, e1, e2, eL, aC, aN, eV, eC, eIf, gIx, seqA, seqL, L2.atI, L2.ixN, gGt, gLt, gGe, gLe, gI, gMod, gN, gFdiv, gAdd, gSub, gMul', gMul, gPow, gNeg, gAbs, gLen, gMax, gMin, setD, sRet, SR.then, SR.val, R.bind, SR.of, sNx, gCall, gTup, gLst, gNew, gAppend, gCatN, gCatV, pk, sizeLine, hl]⟩
      · exact ⟨0, by omega, by simp [Br.run, st0, sSeq, sIf, sAsg, sAsgT, gSb, sPar, sDrop, eAppend, eK, Br.tC, tT, truD, e1, e2, eL, aC, aN, eV, eC, eIf, gIx, seqA, seqL, L2.atI, L2.ixN, gGt, gLt, gGe, gLe, gI, gMod, gN, gFdiv, gAdd, gSub, gMul', gMul, gPow, gNeg, gAbs, gLen, gMax, gMin, setD, sRet, SR.then, SR.val, R.bind, SR.of, sNx, gCall, gTup, gLst, gNew, gAppend, gCatN, gCatV, pk, sizeLine, hl]⟩
    obtain ⟨y, hy0, hy⟩ := hy
    refine ⟨y, (x % 2305843009213693951 + 8221 * i + 7) * 5103497 % 2305843009213693951, hy0, Int.emod_nonneg _ (by decide), Int.lt_of_lt_of_le (Int.emod_lt_of_pos _ (by decide)) (by decide), ?_⟩
    unfold m__law_bag
    refine run_go (ρ1 := [some (scriptD ns), some (.int i), some (.int x), some (.int y)]) ?_
    unfold b__law_bag
    refine go_step (asg_ok hx) ?_
    refine go_step (asg_ok hy) ?_
    simp [Br.run, st0, sSeq, sIf, sAsg, sAsgT, gSb, sPar, sDrop, eAppend, eK, Br.tC, tT, truD, e1, e2, eL, aC, aN, eV, eC, eIf, gIx, seqA, seqL, L2.atI, L2.ixN, gGt, gLt, gGe, gLe, gI, gMod, gN, gFdiv, gAdd, gSub, gMul', gMul, gPow, gNeg, gAbs, gLen, gMax, gMin, setD, sRet, SR.then, SR.val, R.bind, SR.of, sNx, gCall, gTup, gLst, gNew, gAppend, gCatN, gCatV, pk, sizeLine, hm, hm2, bag]
  obtain ⟨a, b, h1, h2, h3, e⟩ := key
  exact ⟨b, _, e, by simp, fun j hj => List.getElem?_append_left hj, ⟨by simp, ⟨a, 0, by simp, h1, by omega, by omega⟩, h2, h3⟩⟩
/-- bounded things -/
structure Tn (B n w : Nat) (d : D) : Prop where
  ok : okD B d = true
  dp : dpD d ≤ n
  wt : wtD d ≤ w
mutual
theorem okD_mono {B B' : Nat} (h : B ≤ B') : ∀ d : D, okD B d = true → okD B' d = true
  | .non, _ => rfl
  | .bl _, _ => rfl
  | .int i, q => by
    have q1 : i.natAbs < 10 ^ B := by simpa [okD] using q
    have : i.natAbs < 10 ^ B' := Nat.lt_of_lt_of_le q1 (Nat.pow_le_pow_right (by decide) h)
    simpa [okD] using this
  | .str x, q => by simpa [okD] using q
  | .tup xs, q => by
    have := okDs_mono h xs (by simpa [okD] using q)
    simpa [okD] using this
  | .lst xs, q => by
    have := okDs_mono h xs (by simpa [okD] using q)
    simpa [okD] using this
  | .ref _, q => by simp [okD] at q
  | .gl _, q => by simp [okD] at q
  | .ty _, q => by simp [okD] at q
theorem okDs_mono {B B' : Nat} (h : B ≤ B') : ∀ ds : List D, okDs B ds = true → okDs B' ds = true
  | [], _ => rfl
  | x :: xs, q => by
    have q1 : okD B x = true ∧ okDs B xs = true := by simpa [okDs] using q
    have a := okD_mono h x q1.1
    have b := okDs_mono h xs q1.2
    simp [okDs, a, b]
end
theorem Tn.mono {B B' n n' w w' : Nat} {d : D} (h : Tn B n w d) (h1 : B ≤ B') (h2 : n ≤ n') (h3 : w ≤ w') : Tn B' n' w' d := ⟨okD_mono h1 d h.ok, Nat.le_trans h.dp h2, Nat.le_trans h.wt h3⟩
theorem Tn.th {B n w : Nat} {d : D} (h : Tn B n w d) (h1 : B ≤ 50) (h2 : n ≤ 60) (h3 : w ≤ 10000) : Th d := let q := h.mono h1 h2 h3; ⟨q.ok, q.dp, q.wt⟩
theorem okDs_app {B : Nat} : ∀ {xs ys : List D}, okDs B (xs ++ ys) = (okDs B xs && okDs B ys)
  | [], ys => by simp [okDs]
  | x :: xs, ys => by simp [okDs, okDs_app, Bool.and_assoc]
theorem dpDs_app : ∀ {xs ys : List D}, dpDs (xs ++ ys) = max (dpDs xs) (dpDs ys)
  | [], ys => by simp [dpDs]
  | x :: xs, ys => by simp [dpDs, dpDs_app, Nat.max_assoc]
theorem wtDs_app : ∀ {xs ys : List D}, wtDs (xs ++ ys) = wtDs xs + wtDs ys
  | [], ys => by simp [wtDs]
  | x :: xs, ys => by simp [wtDs, wtDs_app]; omega
/-- the same of a list of items -/
structure Ts (B n w : Nat) (xs : List D) : Prop where
  ok : okDs B xs = true
  dp : dpDs xs ≤ n
  wt : wtDs xs ≤ w
theorem Ts.tup {B n w : Nat} {xs : List D} (h : Ts B n w xs) : Tn B (n + 1) w (.tup xs) := ⟨by simpa [okD] using h.ok, by have := h.dp; show dpDs xs + 1 ≤ n + 1; omega, h.wt⟩
theorem Ts.lst {B n w : Nat} {xs : List D} (h : Ts B n w xs) : Tn B (n + 1) w (.lst xs) := ⟨by simpa [okD] using h.ok, by have := h.dp; show dpDs xs + 1 ≤ n + 1; omega, h.wt⟩
theorem Tn.ts {B n w : Nat} {xs : List D} (h : Tn B (n + 1) w (.tup xs)) : Ts B n w xs := ⟨by simpa [okD] using h.ok, by have : dpDs xs + 1 ≤ n + 1 := h.dp; omega, h.wt⟩
theorem Ts.app {B n w w' : Nat} {xs ys : List D} (h : Ts B n w xs) (h' : Ts B n w' ys) : Ts B n (w + w') (xs ++ ys) := by
  have a := h.dp; have b := h'.dp; have c := h.wt; have d := h'.wt
  exact ⟨by rw [okDs_app, h.ok, h'.ok]; rfl, by rw [dpDs_app]; omega, by rw [wtDs_app]; omega⟩
theorem Ts.one {B n w : Nat} {d : D} (h : Tn B n w d) : Ts B n (w + 1) [d] := by
  have a := h.dp; have c := h.wt
  exact ⟨by simp [okDs, h.ok], by simp [dpDs]; omega, by simp [wtDs]; omega⟩
theorem take_drop {B n w : Nat} {xs : List D} (h : Ts B n w xs) (i : Nat) : ∃ u v, u + v ≤ w ∧ Ts B n u (xs.take i) ∧ Ts B n v (xs.drop i) := by
  have e : xs.take i ++ xs.drop i = xs := List.take_append_drop i xs
  have a := h.ok; have b := h.dp; have c := h.wt
  rw [← e, okDs_app, Bool.and_eq_true] at a
  rw [← e, dpDs_app] at b
  rw [← e, wtDs_app] at c
  exact ⟨_, _, c, ⟨a.1, by omega, Nat.le_refl _⟩, ⟨a.2, by omega, Nat.le_refl _⟩⟩
theorem Ts.len {B n w : Nat} {xs : List D} (h : Ts B n w xs) : xs.length ≤ w := Nat.le_trans (wtDs_len xs) h.wt
theorem Ts.rev {B n w : Nat} : ∀ {xs : List D}, Ts B n w xs → Ts B n w xs.reverse
  | [], h => h
  | x :: xs, h => by
    have e : x :: xs = [x] ++ xs := rfl
    have h1 := h.ok; have h2 := h.dp; have h3 := h.wt
    rw [e, okDs_app, Bool.and_eq_true] at h1
    rw [e, dpDs_app] at h2
    rw [e, wtDs_app] at h3
    have ih : Ts B n (wtDs xs) xs.reverse := Ts.rev ⟨h1.2, by omega, Nat.le_refl _⟩
    rw [List.reverse_cons]
    have := ih.app (ys := [x]) (w' := wtDs [x]) ⟨h1.1, by omega, Nat.le_refl _⟩
    exact ⟨this.ok, this.dp, by have := this.wt; omega⟩
end LW
set_option Elab.async false
set_option linter.all false
set_option maxRecDepth 100000
set_option maxHeartbeats 4000000
namespace LW
open PySem PySem.Spec Br
theorem Bag.keep {M M' : Mem} {n : Nat} {b c : Int} (h : Bag M n b c) (e : M'[n]? = M[n]?) : Bag M' n b c := by
  obtain ⟨a, c', h1, h2, h3, h4⟩ := h.at_
  exact ⟨(List.getElem?_eq_some_iff.mp (e.trans h1)).1, ⟨a, c', e.trans h1, h2, h3, h4⟩, h.b0, h.b1⟩
theorem Bag.more {M : Mem} {n : Nat} {b c c2 : Int} (h : Bag M n b c) (hc : c ≤ c2) : Bag M n b c2 := by
  obtain ⟨a, c', h1, h2, h3, h4⟩ := h.at_
  exact ⟨h.lt, ⟨a, c', h1, h2, h3, by omega⟩, h.b0, h.b1⟩
theorem catN_go {fa fb : FE} {k : Nat} {ρ : En} {M : Mem} {x y : D} {xs ys : List D} (ha : fa ρ M = .ok x M) (hb : fb ρ M = .ok y M) (hx : seqL M x = some xs) (hy : seqL M y = some ys) (hl : xs.length + ys.length ≤ sizeLine) :
    sAsg (Br.e2 gCatN fa fb) (gN k) ρ M = .go .nx (ρ.set k (some (.ref M.length))) (M ++ [.lst (xs ++ ys)]) := by
  unfold sAsg Br.e2; rw [ha]; dsimp only [R.bind]; rw [hb]; dsimp only; unfold gCatN; rw [hx, hy]; dsimp only; rw [if_pos hl]; rfl
theorem app_go {fo : FE} {g : FA} {ρ : En} {M M1 : Mem} {n : Nat} {d : D} {xs : List D} (ho : fo ρ M = .ok (.ref n) M) (hg : g ρ M = .ok [d] M1) {ys : List D} (hn0 : M[n]? = some (.lst ys)) (hn : M1[n]? = some (.lst xs)) (hl : xs.length < sizeLine) :
    sDrop (eAppend fo g) ρ M = .go .nx ρ (M1.set n (.lst (xs ++ [d]))) := by
  unfold sDrop eAppend; rw [ho]; dsimp only [R.bind]; rw [hg]; dsimp only; simp [hn0, hn, hl, SR.of, gAppend]
theorem seqL_at {M : Mem} {p : Nat} {l : List D} (h : M[p]? = some (MO.lst l)) : seqL M (.ref p) = some l := by unfold seqL; dsimp only; rw [h]
def anyP : List D := [.non, .bl true, .bl false, .int 0, .int 1, .int 2, .int 3, .int (-1), .int 9, .int 10, .int (10 ^ 40), .str "", .str "cache", .str "stale", .str "retry", .str "Cache", .str "lead", .lst [], .tup []]
def anyQ : List D := [.tup [.int 0], .tup [.int 1], .tup [.int 0, .int 1], .tup [.int 1, .int 0], .tup [.int 0, .int 0], .lst [.int 0], .tup [.bl true], .tup [.str "cache"], .lst [.str "cache"], .tup [.str "once"]]
def anyR : D := .tup [.str "retry", .int 1, .tup [.int 0]]
def tnB (B n w : Nat) (d : D) : Bool := okD B d && decide (dpD d ≤ n) && decide (wtD d ≤ w)
theorem tn_of {B n w : Nat} {d : D} (h : tnB B n w d = true) : Tn B n w d := by
  unfold tnB at h
  simp only [Bool.and_eq_true, decide_eq_true_eq] at h
  exact ⟨h.1.1, h.1.2, h.2⟩
theorem any_tn : ∀ d ∈ anyP ++ anyQ ++ [anyR], Tn 41 2 900 d := by
  have h : ((anyP ++ anyQ ++ [anyR]).all (tnB 41 2 900)) = true := by decide +kernel
  exact fun d hd => tn_of (List.all_eq_true.mp h d hd)
theorem any_ok {M : Mem} {n : Nat} {b c : Int} (h : Bag M n b c) (hc : c < 2 ^ 30) : ∃ (d : D) (M' : Mem), m__law_any [.ref n] M = .ok d M' ∧ Tn 41 2 900 d ∧ Bag M' n b (c + 1) := by
  have hn := h.lt
  obtain ⟨L, hL⟩ : ∃ L, L = anyP ++ anyQ ++ [anyR] := ⟨_, rfl⟩
  have h2 : Bag ((M ++ [MO.lst (anyP ++ anyQ)]).set M.length (.lst L)) n b c := h.keep (by rw [List.getElem?_set_ne (by omega), List.getElem?_append_left hn])
  obtain ⟨j, M3, j0, j1, ht, hlen, hk, h3⟩ := h2.take (m := 30) (by omega) (by decide) (by decide)
  have hat : M3[M.length]? = some (.lst L) := by
    rw [hk _ (by omega)]
    simp
  obtain ⟨i, rfl⟩ : ∃ i : Nat, j = (i : Int) := ⟨j.toNat, by omega⟩
  have hiL : i < L.length := by rw [hL]; show i < 30; omega
  have hall : ∀ d ∈ L, Tn 41 2 900 d := by rw [hL]; exact any_tn
  refine ⟨L[i], M3, ?_, hall _ (List.getElem_mem hiL), h3⟩
  unfold m__law_any
  refine run_ex ⟨[some (.ref n), some (.ref M.length)], ?_⟩
  show b__law_any [some (.ref n), none] M = _
  unfold b__law_any
  refine go_step (asg_ok (d := .lst anyP) (M1 := M) rfl) ?_
  refine go_step (M1 := M ++ [.lst (anyP ++ anyQ)]) (ρ1 := [some (.ref n), some (.ref M.length)]) (catN_go (x := .lst anyP) (y := .lst anyQ) rfl rfl rfl rfl (by decide)) ?_
  refine go_step (M1 := (M ++ [MO.lst (anyP ++ anyQ)]).set M.length (.lst L)) (ρ1 := [some (.ref n), some (.ref M.length)]) (by rw [hL]; exact app_go (ys := anyP ++ anyQ) rfl rfl (by simp) (by simp) (by decide)) ?_
  refine ret_ok ?_
  have hcall : (eL (gCall 2 (fun ds _ => ds) m__law_take) (aC (eV 0) (aC (eC (D.int 30)) aN))) [some (.ref n), some (.ref M.length)] ((M ++ [MO.lst (anyP ++ anyQ)]).set M.length (.lst L)) = .ok (.int (i : Int)) M3 := call2 rfl rfl ht
  have hi2 : (i : Int) < (L.length : Int) := by omega
  show (R.bind _ _) = _
  have hv : eV 1 [some (.ref n), some (.ref M.length)] ((M ++ [MO.lst (anyP ++ anyQ)]).set M.length (.lst L)) = .ok (.ref M.length) ((M ++ [MO.lst (anyP ++ anyQ)]).set M.length (.lst L)) := rfl
  rw [hv]; dsimp only [R.bind]; rw [hcall]
  simp [gIx, seqA, seqL, hat, L2.atI, L2.ixN, hi2, hiL]
end LW
set_option Elab.async false
set_option linter.all false
set_option maxRecDepth 100000
set_option maxHeartbeats 4000000
namespace LW
open PySem PySem.Spec Br
theorem aC_ok {fa : FE} {r : FA} {ρ : En} {M M1 M2 : Mem} {x : D} {xs : List D} (h : fa ρ M = .ok x M1) (k : r ρ M1 = .ok xs M2) : aC fa r ρ M = .ok (x :: xs) M2 := by
  unfold aC; rw [h]; dsimp only [R.bind]; rw [k]
theorem tup_ok {g : FA} {ρ : En} {M M1 : Mem} {xs : List D} (h : g ρ M = .ok xs M1) (hl : xs.length ≤ sizeLine) : eL gTup g ρ M = .ok (.tup xs) M1 := by
  unfold eL; rw [h]; dsimp only [R.bind]; unfold gTup; rw [if_pos hl]
theorem lst_ok {g : FA} {ρ : En} {M M1 : Mem} {xs : List D} (h : g ρ M = .ok xs M1) (hl : xs.length ≤ sizeLine) : eL gLst g ρ M = .ok (.lst xs) M1 := by
  unfold eL; rw [h]; dsimp only [R.bind]; unfold gLst; rw [if_pos hl]
theorem call2s {m : FL} {a b : FE} {ρ : En} {M M1 : Mem} {x y : D} {r : R D} (h : a ρ M = .ok x M) (h2 : b ρ M = .ok y M1) (k : m [x, y] M1 = r) : (eL (gCall 2 (fun ds _ => ds) m) (aC a (aC b aN))) ρ M = r := by
  simp [eL, aC, aN, h, h2, gCall, R.bind, k]
theorem tn_int {i : Int} (h0 : 0 ≤ i) (h1 : i < 1000) : Tn 41 0 200 (.int i) := by
  refine ⟨?_, Nat.le_refl _, Nat.le_refl _⟩
  have : i.natAbs < 10 ^ 41 := Nat.lt_of_lt_of_le (show i.natAbs < 1000 by omega) (by decide)
  simpa [okD] using this
theorem add1 {a : FE} {ρ : En} {M M1 : Mem} {i : Int} (h : a ρ M = .ok (.int i) M1) : (Br.e2 gAdd (eC (D.int 1)) a) ρ M = .ok (.int (1 + i)) M1 := by
  unfold Br.e2 eC; dsimp only [R.bind]; rw [h]; rfl
theorem eif_t {t : FT} {a b : FE} {ρ : En} {M M1 : Mem} {r : R D} (h : t ρ M = .ok true M1) (k : a ρ M1 = r) : eIf t a b ρ M = r := by unfold eIf; rw [h]; exact k
theorem ix_of {fa fb : FE} {ρ : En} {M M1 M2 : Mem} {x : D} {i : Nat} {L : List D} {d : D} (ha : fa ρ M = .ok x M1) (hb : fb ρ M1 = .ok (.int (i : Int)) M2) (hs : seqA M2 x = some L) (hns : ∀ z, x ≠ .str z) (hd : L[i]? = some d) : (Br.e2 gIx fa fb) ρ M = .ok d M2 := by
  unfold Br.e2; rw [ha]; dsimp only [R.bind]; rw [hb]; dsimp only
  have hl := (List.getElem?_eq_some_iff.mp hd).1
  have h1 : (i : Int) < (L.length : Int) := by omega
  cases x with
  | str z => exact absurd rfl (hns z)
  | _ => simp [gIx, hs, L2.atI, L2.ixN, h1, hd]
def kindL : List D := [.tup [.int 0], .tup [.int 0, .int 1], .tup [.int 1], .tup [.int 0]]
theorem some_ok {M : Mem} {n : Nat} {b c k : Int} (h : Bag M n b c) (hc : c < 2 ^ 30) (hk : k = 1 ∨ k = 2) : ∃ (d : D) (M' : Mem), m__law_some_kinds [.ref n, .int k] M = .ok d M' ∧ Tn 41 1 500 d ∧ M'.length = M.length ∧ (∀ i, i ≠ n → M'[i]? = M[i]?) ∧ Bag M' n b (c + 1) := by
  unfold m__law_some_kinds
  rcases hk with rfl | rfl
  · refine ⟨.tup [.int 0], M, ?_, tn_of (by decide +kernel), rfl, fun _ _ => rfl, h.more (by omega)⟩
    refine run_ex ⟨[some (.ref n), some (.int 1)], ?_⟩
    show b__law_some_kinds [some (.ref n), some (.int 1)] M = _
    unfold b__law_some_kinds
    exact ret_ok rfl
  · obtain ⟨j, M3, j0, j1, ht, hlen, hkp, h3⟩ := h.take (m := 4) (by omega) (by decide) (by decide)
    obtain ⟨i, rfl⟩ : ∃ i : Nat, j = (i : Int) := ⟨j.toNat, by omega⟩
    have hiL : i < kindL.length := by show i < 4; omega
    have hall : ∀ d ∈ kindL, Tn 41 1 500 d := by
      have h : (kindL.all (tnB 41 1 500)) = true := by decide +kernel
      exact fun d hd => tn_of (List.all_eq_true.mp h d hd)
    refine ⟨kindL[i], M3, ?_, hall _ (List.getElem_mem hiL), hlen, hkp, h3⟩
    refine run_ex ⟨[some (.ref n), some (.int 2)], ?_⟩
    show b__law_some_kinds [some (.ref n), some (.int 2)] M = _
    unfold b__law_some_kinds
    refine ret_ok ?_
    have hcall : (eL (gCall 2 (fun ds _ => ds) m__law_take) (aC (eV 0) (aC (eC (D.int 4)) aN))) [some (.ref n), some (.int 2)] M = .ok (.int (i : Int)) M3 := call2 rfl rfl ht
    have hi2 : (i : Int) < (kindL.length : Int) := by omega
    exact eif_t (M1 := M) rfl (ix_of (x := .lst kindL) rfl hcall rfl (fun z e => by cases e) (List.getElem?_eq_getElem hiL))
end LW
set_option Elab.async false
set_option linter.all false
set_option maxRecDepth 100000
set_option maxHeartbeats 4000000
namespace LW
open PySem PySem.Spec Br
theorem catN_go2 {fa fb : FE} {k : Nat} {ρ : En} {M M1 : Mem} {x y : D} {xs ys : List D} (ha : fa ρ M = .ok x M) (hb : fb ρ M = .ok y M1) (hx : seqL M1 x = some xs) (hy : seqL M1 y = some ys) (hl : xs.length + ys.length ≤ sizeLine) :
    sAsg (Br.e2 gCatN fa fb) (gN k) ρ M = .go .nx (ρ.set k (some (.ref M1.length))) (M1 ++ [.lst (xs ++ ys)]) := by
  unfold sAsg Br.e2; rw [ha]; dsimp only [R.bind]; rw [hb]; dsimp only; unfold gCatN; rw [hx, hy]; dsimp only; rw [if_pos hl]; rfl
theorem catV_go {fa fb : FE} {k : Nat} {ρ : En} {M : Mem} {x y : D} {xs ys : List D} (ha : fa ρ M = .ok x M) (hb : fb ρ M = .ok y M) (hx : seqL M x = some xs) (hy : seqL M y = some ys) (hl : xs.length + ys.length ≤ sizeLine) :
    sAsg (Br.e2 gCatV fa fb) (gN k) ρ M = .go .nx (ρ.set k (some (.lst (xs ++ ys)))) M := by
  unfold sAsg Br.e2; rw [ha]; dsimp only [R.bind]; rw [hb]; dsimp only; unfold gCatV; rw [hx, hy]; dsimp only; rw [if_pos hl]; rfl
theorem takes_lc {n : Nat} {a b : Int} {te : FE} {ρ : En} (ha : 0 < a) (ha2 : a < 2 ^ 40) (hte : ∀ (x : D) (M : Mem), te (ρ.set 7 (some x)) M = m__law_take [.ref n, .int a] M) :
    ∀ (xs acc : List D) (M : Mem) (c : Int), Bag M n b c → c + xs.length < 2 ^ 31 → acc.length + xs.length ≤ sizeLine → ∃ (ys : List D) (M' : Mem), lcGo (gN 7) tYesM te ρ xs acc M = .ok (acc ++ ys) M' ∧ ys.length = xs.length ∧ (∀ y ∈ ys, ∃ i : Int, y = .int i ∧ 0 ≤ i ∧ i < a) ∧ M'.length = M.length ∧ (∀ i, i ≠ n → M'[i]? = M[i]?) ∧ Bag M' n b (c + xs.length)
  | [], acc, M, c, h, _, _ => ⟨[], M, by simp [lcGo], rfl, (fun y hy => absurd hy (by simp)), rfl, (fun _ _ => rfl), by simpa using h⟩
  | x :: xs, acc, M, c, h, hc, hl => by
    rw [List.length_cons] at hc hl
    obtain ⟨d, M1, d0, d1, ht, hlen, hk, h1⟩ := h.take (m := a) (by omega) ha ha2
    obtain ⟨ys, M2, e, l2, hys, hlen2, hk2, h2⟩ := takes_lc ha ha2 hte xs (acc ++ [.int d]) M1 (c + 1) h1 (by omega) (by rw [List.length_append, List.length_singleton]; omega)
    refine ⟨.int d :: ys, M2, ?_, by rw [List.length_cons, List.length_cons, l2], ?_, hlen2.trans hlen, fun i hi => (hk2 i hi).trans (hk i hi), ?_⟩
    · unfold lcGo
      have ht2 := hte x M
      rw [ht] at ht2
      simp only [gN, tYesM, ht2]
      rw [if_pos (by omega), e]
      simp
    · intro y hy
      rcases List.mem_cons.mp hy with rfl | hy
      · exact ⟨d, rfl, d0, d1⟩
      · exact hys y hy
    · have : c + ((x :: xs).length : Int) = c + 1 + (xs.length : Int) := by rw [List.length_cons]; omega
      rw [this]; exact h2
theorem tn_pair {B n w : Nat} {s : Str} {xs : List D} (hs : PyData.strOk s = true) (h : Ts B n w xs) : Tn B (n + 1) (s.cps.size + 1 + w) (.tup (.str s :: xs)) := by
  have h1 : Ts B n (s.cps.size + 1) [.str s] := ⟨by simp [okDs, okD, hs], by simp [dpDs, dpD], by simp [wtDs, wtD]⟩
  exact (h1.app h).tup
theorem tn_s {s : D} (h : Tn 41 1 500 s) : Ts 41 1 501 [s] := Ts.one h
theorem ts_i {i : Int} (h0 : 0 ≤ i) (h1 : i < 1000) : Ts 41 1 201 [.int i] := Ts.one ((tn_int h0 h1).mono (Nat.le_refl _) (by decide) (Nat.le_refl _))
theorem tn_nil (B n w : Nat) : Ts B n w [] := ⟨rfl, Nat.zero_le _, Nat.zero_le _⟩
end LW
set_option Elab.async false
set_option linter.all false
set_option maxRecDepth 100000
set_option maxHeartbeats 4000000
namespace LW
open PySem PySem.Spec Br
theorem par3 {fa fb fc : FE} {i j k : Nat} {ρ : En} {M M1 M2 M3 : Mem} {x y z : D} (h1 : fa ρ M = .ok x M1) (h2 : fb ρ M1 = .ok y M2) (h3 : fc ρ M2 = .ok z M3) :
    sPar [i, j, k] (aC fa (aC fb (aC fc aN))) ρ M = .go .nx (((ρ.set i (some x)).set j (some y)).set k (some z)) M3 := by
  simp [sPar, aC, h1, h2, h3, R.bind, aN, SR.of]
theorem rng_lc {i : Nat} {ga : FA} {te : FE} {ρ : En} {M M' : Mem} {a : Int} {ys : List D} (hg : ga ρ M = .ok [.int a] M) (h0 : 0 ≤ a) (h1 : a < 2 ^ 62) (h : lcGo (gN i) tYesM te (wipeE ρ [i]) (rangeD 0 a.toNat) [] M = .ok ([] ++ ys) M') :
    (eL gTupOf (aC (eLcV [i] (wRng1 ga) (gN i) tYesM te) aN)) ρ M = .ok (.tup ys) M' := by
  have e : eLcV [i] (wRng1 ga) (gN i) tYesM te ρ M = .ok (.lst ys) M' := by
    unfold eLcV wRng1
    rw [hg]; dsimp only [R.bind]; rw [if_pos ⟨by omega, h1⟩]; dsimp only [lcW]; rw [h]; rfl
  unfold eL aC
  rw [e]; rfl
theorem len_at {i : Nat} {ρ : En} {M : Mem} {x : D} {L : List D} (hv : eV i ρ M = .ok x M) (hs : seqA M x = some L) (hns : ∀ z, x ≠ .str z) : (eL gLen (aC (eV i) aN)) ρ M = .ok (.int (L.length : Int)) M := by
  cases x with
  | str z => exact absurd rfl (hns z)
  | _ => simp [eL, aC, aN, hv, R.bind, gLen, hs]
theorem layer_gen {M : Mem} {n : Nat} {b c a k : Int} (h : Bag M n b c) (hc : c < 2 ^ 29) (ha : a = 1 ∨ a = 2) (hk : k = 1 ∨ k = 2) :
    ∃ (d : D) (M' : Mem), m__law_layer [.ref n, .int a, .int k] M = .ok d M' ∧ (Tn 41 2 1200 d ∧ ∃ xs, d = .tup xs) ∧ Bag M' n b (c + 20) := by
  have hk0 : 0 < k := by rcases hk with rfl | rfl <;> decide
  have hk1 : k ≤ 2 := by rcases hk with rfl | rfl <;> decide
  have hk9 : k < 2 ^ 40 := by rcases hk with rfl | rfl <;> decide
  have ha9 : a < 2 ^ 40 := by rcases ha with rfl | rfl <;> decide
  have hc9 : c < 536870912 := hc
  have ha0 : 0 < a := by rcases ha with rfl | rfl <;> decide
  have ha1 : a ≤ 2 := by rcases ha with rfl | rfl <;> decide
  obtain ⟨x1, M1, x10, x11, t1, l1, f1, B1⟩ := h.take (m := k) (by omega) hk0 hk9
  obtain ⟨s, M2, t2, hs, l2, f2, B2⟩ := some_ok B1 (by omega) hk
  obtain ⟨x3, M3, x30, x31, t3, l3, f3, B3⟩ := B2.take (m := 2) (by omega) (by decide) (by decide)
  obtain ⟨y1, M4, y10, y11, t4, l4, f4, B4⟩ := B3.take (m := 3) (by omega) (by decide) (by decide)
  obtain ⟨y2, M5, y20, y21, t5, l5, f5, B5⟩ := B4.take (m := 2) (by omega) (by decide) (by decide)
  have hn5 := B5.lt
  obtain ⟨P1, hP1⟩ : ∃ P, P = [D.tup [.str "cache"], .tup [.str "once"], .tup [.str "stale", s], .tup [.str "limit", .int y1, .int x1], .tup [.str "depth", .int (1 + x3), .int x1]] := ⟨_, rfl⟩
  obtain ⟨P2, hP2⟩ : ∃ P, P = [D.tup [.str "guard", .int x1], .tup [.str "breaker", .int (1 + x3), .int (1 + y2), .int x1], .tup [.str "retry", .int (1 + x3), s]] := ⟨_, rfl⟩
  have B6 : Bag (M5 ++ [.lst (P1 ++ P2)]) n b (c + 1 + 1 + 1 + 1 + 1) := B5.keep (List.getElem?_append_left hn5)
  obtain ⟨y3, M7, y30, y31, t7, l7, f7, B7⟩ := B6.take (m := 10) (by omega) (by decide) (by decide)
  have hp7 : M7[M5.length]? = some (.lst (P1 ++ P2)) := by rw [f7 _ (by omega)]; simp
  obtain ⟨P3, hP3⟩ : ∃ P, P = P1 ++ P2 ++ [D.tup [.str "swallow", .int y3, s]] := ⟨_, rfl⟩
  have B8 : Bag (M7.set M5.length (.lst P3)) n b (c + 1 + 1 + 1 + 1 + 1 + 1) := B7.keep (List.getElem?_set_ne (by omega))
  have hp8 : (M7.set M5.length (.lst P3))[M5.length]? = some (.lst P3) := by rw [List.getElem?_set_self (by rw [l7]; simp)]
  obtain ⟨ρ1, hρ1⟩ : ∃ ρ : En, ρ = [some (.ref n), some (.int a), some (.int k), some (.int x1), some s, some (.int (1 + x3)), some (.ref M5.length), none] := ⟨_, rfl⟩
  obtain ⟨ys, M9, e9, l9, hys, ll9, f9, B9⟩ := takes_lc (n := n) (a := a) (b := b) (te := eL (gCall 2 (fun ds _ => ds) m__law_take) (aC (eV 0) (aC (eV 1) aN))) (ρ := wipeE ρ1 [7]) ha0 ha9 (fun x M => by
    subst hρ1
    exact call2 rfl rfl rfl) (rangeD 0 a.toNat) [] (M7.set M5.length (.lst P3)) _ B8 (by
      have : (rangeD 0 a.toNat).length = a.toNat := by simp [rangeD]
      rw [this]; omega) (by
      have : (rangeD 0 a.toNat).length = a.toNat := by simp [rangeD]
      rw [this]; show 0 + a.toNat ≤ sizeLine; rcases ha with rfl | rfl <;> decide)
  have hla : (rangeD 0 a.toNat).length = a.toNat := by simp [rangeD]
  rw [hla] at B9 l9
  have hp9 : M9[M5.length]? = some (.lst P3) := by rw [f9 _ (by omega)]; exact hp8
  obtain ⟨P4, hP4⟩ : ∃ P, P = P3 ++ [D.tup [.str "lead", .tup ys]] := ⟨_, rfl⟩
  have B10 : Bag (M9.set M5.length (.lst P4)) n b (c + 1 + 1 + 1 + 1 + 1 + 1 + (a.toNat : Int)) := B9.keep (List.getElem?_set_ne (by omega))
  have hp10 : (M9.set M5.length (.lst P4))[M5.length]? = some (.lst P4) := by
    have : M5.length < M9.length := by rw [ll9, List.length_set, l7]; simp
    rw [List.getElem?_set_self this]
  have hyl : ys.length ≤ 2 := by rw [l9]; rcases ha with rfl | rfl <;> decide
  -- the made list's items
  have i0 := fun {i : Int} (h0 : 0 ≤ i) (h1 : i < 1000) => ts_i h0 h1
  have tys : Ts 41 0 402 ys := by
    have go : ∀ (l : List D), (∀ y ∈ l, ∃ i : Int, y = .int i ∧ 0 ≤ i ∧ i < a) → Ts 41 0 (201 * l.length) l := by
      intro l
      induction l with
      | nil => intro _; exact tn_nil _ _ _
      | cons y l ih =>
        intro hl
        obtain ⟨i, rfl, i0, i1⟩ := hl y (List.mem_cons_self ..)
        have h1 := Ts.one (tn_int (i := i) i0 (by omega))
        have h2 := h1.app (ih fun z hz => hl z (List.mem_cons_of_mem _ hz))
        exact ⟨h2.ok, h2.dp, by have := h2.wt; rw [List.length_cons]; simp only [List.singleton_append] at this; omega⟩
    have q := go ys hys
    exact ⟨q.ok, q.dp, by have := q.wt; omega⟩
  have hall4 : ∀ d ∈ P4, Tn 41 2 1200 d ∧ ∃ xs, d = .tup xs := by
    have hsx := tn_s hs
    intro d hd
    rw [hP4, hP3, hP1, hP2] at hd
    simp only [List.mem_append, List.mem_cons, List.not_mem_nil, or_false] at hd
    have c1 : ∀ {z : Str} {xs : List D} {w : Nat}, PyData.strOk z = true → Ts 41 1 w xs → z.cps.size + 1 + w ≤ 1200 → (Tn 41 2 1200 (.tup (.str z :: xs)) ∧ ∃ ys, D.tup (.str z :: xs) = .tup ys) := fun hz hx hw => ⟨(tn_pair hz hx).mono (Nat.le_refl _) (Nat.le_refl _) hw, _, rfl⟩
    rcases hd with (((rfl | rfl | rfl | rfl | rfl) | rfl | rfl | rfl) | rfl) | rfl
    · exact c1 (by decide +kernel) (tn_nil 41 1 0) (by decide +kernel)
    · exact c1 (by decide +kernel) (tn_nil 41 1 0) (by decide +kernel)
    · exact c1 (by decide +kernel) hsx (by decide +kernel)
    · exact c1 (by decide +kernel) ((ts_i y10 (by omega)).app (ts_i x10 (by omega))) (by decide +kernel)
    · exact c1 (by decide +kernel) ((ts_i (i := 1 + x3) (by omega) (by omega)).app (ts_i x10 (by omega))) (by decide +kernel)
    · exact c1 (by decide +kernel) (ts_i x10 (by omega)) (by decide +kernel)
    · exact c1 (by decide +kernel) ((ts_i (i := 1 + x3) (by omega) (by omega)).app ((ts_i (i := 1 + y2) (by omega) (by omega)).app (ts_i x10 (by omega)))) (by decide +kernel)
    · exact c1 (by decide +kernel) ((ts_i (i := 1 + x3) (by omega) (by omega)).app hsx) (by decide +kernel)
    · exact c1 (by decide +kernel) ((ts_i y30 (by omega)).app hsx) (by decide +kernel)
    · exact c1 (by decide +kernel) (Ts.one tys.tup) (by decide +kernel)
  have hl4 : P4.length = 10 := by rw [hP4, hP3, hP1, hP2]; rfl
  have front : ∀ (d : D) (M' : Mem), (∃ ρ2, (sSeq (sIf (Br.tC (Br.e2 gEq (eV 2) (eC (D.int 2)))) (sAsg (Br.e2 gCatV (eV 6) (eL gLst (aC (eL gTup (aC (eC (D.str "rename")) (aC (eV 3) (aC (Br.e2 gSub (eC (D.int 1)) (eV 3)) aN)))) aN))) (gN 6)) sNx)
      (sRet (Br.e2 gIx (eV 6) (eL (gCall 2 (fun ds _ => ds) m__law_take) (aC (eV 0) (aC (eL gLen (aC (eV 6) aN)) aN)))))) ρ1 (M9.set M5.length (.lst P4)) = .go (.ret d) ρ2 M') → m__law_layer [.ref n, .int a, .int k] M = .ok d M' := by
    intro d M' hfin
    unfold m__law_layer
    refine run_ex ?_
    show ∃ ρ2, b__law_layer [some (.ref n), some (.int a), some (.int k), none, none, none, none, none] M = _
    unfold b__law_layer
    refine step_ex (ρ1 := [some (.ref n), some (.int a), some (.int k), some (.int x1), some s, some (.int (1 + x3)), none, none]) (M1 := M3) (par3 (call2 rfl rfl t1) (call2 rfl rfl t2) (add1 (call2 rfl rfl t3))) ?_
    refine step_ex (ρ1 := [some (.ref n), some (.int a), some (.int k), some (.int x1), some s, some (.int (1 + x3)), some (.lst P1), none]) (M1 := M4) (asg_ok (lst_ok (by
      rw [hP1]
      exact aC_ok rfl (aC_ok rfl (aC_ok rfl (aC_ok (tup_ok (aC_ok rfl (aC_ok (call2 rfl rfl t4) (aC_ok rfl rfl))) (Nat.le_of_ble_eq_true rfl)) (aC_ok rfl rfl))))) (by rw [hP1]; exact Nat.le_of_ble_eq_true rfl))) ?_
    refine step_ex (ρ1 := ρ1) (M1 := M5 ++ [.lst (P1 ++ P2)]) (by
      rw [hρ1]
      exact catN_go2 (x := .lst P1) (y := .lst P2) rfl (lst_ok (by
        rw [hP2]
        exact aC_ok rfl (aC_ok (tup_ok (aC_ok rfl (aC_ok rfl (aC_ok (add1 (call2 rfl rfl t5)) (aC_ok rfl rfl)))) (Nat.le_of_ble_eq_true rfl)) (aC_ok rfl rfl))) (by rw [hP2]; exact Nat.le_of_ble_eq_true rfl)) rfl rfl (by rw [hP1, hP2]; exact Nat.le_of_ble_eq_true rfl)) ?_
    refine step_ex (ρ1 := ρ1) (M1 := M7.set M5.length (.lst P3)) (by
      rw [hP3]
      refine app_go (n := M5.length) (ys := P1 ++ P2) (by rw [hρ1]; rfl) ?_ (by simp) hp7 (by rw [hP1, hP2]; exact Nat.le_of_ble_eq_true rfl)
      rw [hρ1]
      exact aC_ok (tup_ok (aC_ok rfl (aC_ok (call2 rfl rfl t7) (aC_ok rfl rfl))) (Nat.le_of_ble_eq_true rfl)) rfl) ?_
    refine step_ex (ρ1 := ρ1) (M1 := M9.set M5.length (.lst P4)) (by
      rw [hP4]
      refine app_go (n := M5.length) (ys := P3) (xs := P3) (by rw [hρ1]; rfl) ?_ hp8 hp9 (by rw [hP3, hP1, hP2]; exact Nat.le_of_ble_eq_true rfl)
      exact aC_ok (tup_ok (xs := [D.str "lead", .tup ys]) (aC_ok rfl (aC_ok (rng_lc (a := a) (by rw [hρ1]; rfl) (by omega) (by omega) e9) rfl)) (Nat.le_of_ble_eq_true rfl)) rfl) ?_
    exact hfin
  have vb : ∀ (ρ : En) (Mx : Mem), ρ[0]? = some (some (.ref n)) → eV 0 ρ Mx = .ok (.ref n) Mx := fun ρ Mx h => by unfold eV; rw [h]
  rcases hk with rfl | rfl
  · obtain ⟨j, M11, j0, j1, t11, l11, f11, B11⟩ := B10.take (m := 10) (by omega) (by decide) (by decide)
    obtain ⟨i, rfl⟩ : ∃ i : Nat, j = (i : Int) := ⟨j.toNat, by omega⟩
    have hi : i < P4.length := by omega
    have hp11 : M11[M5.length]? = some (.lst P4) := by rw [f11 _ (by omega)]; exact hp10
    refine ⟨P4[i], M11, front _ _ ?_, hall4 _ (List.getElem_mem hi), B11.more (by omega)⟩
    have ht : Br.tC (Br.e2 gEq (eV 2) (eC (D.int 2))) ρ1 (M9.set M5.length (.lst P4)) = .ok false (M9.set M5.length (.lst P4)) := by rw [hρ1]; rfl
    refine step_ex (if_f ht rfl) ⟨ρ1, ret_ok ?_⟩
    refine ix_of (x := .ref M5.length) (i := i) (L := P4) (M1 := M9.set M5.length (.lst P4)) (M2 := M11) (by rw [hρ1]; rfl) ?_ (seqL_at hp11) (fun z e => by cases e) (List.getElem?_eq_getElem hi)
    refine call2 (x := .ref n) (y := .int 10) (by rw [hρ1]; rfl) ?_ t11
    have := len_at (i := 6) (ρ := ρ1) (M := M9.set M5.length (.lst P4)) (x := .ref M5.length) (L := P4) (by rw [hρ1]; rfl) (seqL_at hp10) (fun z e => by cases e)
    rw [this, hl4]; rfl
  · obtain ⟨L, hL⟩ : ∃ L, L = P4 ++ [D.tup [.str "rename", .int x1, .int (1 - x1)]] := ⟨_, rfl⟩
    have hlL : L.length = 11 := by rw [hL, List.length_append, hl4]; rfl
    obtain ⟨j, M11, j0, j1, t11, l11, f11, B11⟩ := B10.take (m := 11) (by omega) (by decide) (by decide)
    obtain ⟨i, rfl⟩ : ∃ i : Nat, j = (i : Int) := ⟨j.toNat, by omega⟩
    have hi : i < L.length := by omega
    have hallL : ∀ d ∈ L, Tn 41 2 1200 d ∧ ∃ xs, d = .tup xs := by
      intro d hd
      rw [hL] at hd
      rcases List.mem_append.mp hd with hd | hd
      · exact hall4 d hd
      · rcases List.mem_singleton.mp hd with rfl
        exact ⟨(tn_pair (by decide +kernel) ((ts_i x10 (by omega)).app (ts_i (i := 1 - x1) (by omega) (by omega)))).mono (Nat.le_refl _) (Nat.le_refl _) (by decide +kernel), _, rfl⟩
    refine ⟨L[i], M11, front _ _ ?_, hallL _ (List.getElem_mem hi), B11.more (by omega)⟩
    have ht : Br.tC (Br.e2 gEq (eV 2) (eC (D.int 2))) ρ1 (M9.set M5.length (.lst P4)) = .ok true (M9.set M5.length (.lst P4)) := by rw [hρ1]; rfl
    obtain ⟨ρ2, hρ2⟩ : ∃ ρ : En, ρ = [some (.ref n), some (.int a), some (.int 2), some (.int x1), some s, some (.int (1 + x3)), some (.lst L), none] := ⟨_, rfl⟩
    refine step_ex (ρ1 := ρ2) (M1 := M9.set M5.length (.lst P4)) (if_t ht ?_) ⟨ρ2, ret_ok ?_⟩
    · rw [hρ2, hρ1, hL]
      exact catV_go (x := .ref M5.length) (y := .lst [D.tup [.str "rename", .int x1, .int (1 - x1)]]) rfl rfl (seqL_at hp10) rfl (by rw [hl4]; exact Nat.le_of_ble_eq_true rfl)
    · refine ix_of (x := .lst L) (i := i) (L := L) (M1 := M9.set M5.length (.lst P4)) (M2 := M11) (by rw [hρ2]; rfl) ?_ rfl (fun z e => by cases e) (List.getElem?_eq_getElem hi)
      refine call2 (x := .ref n) (y := .int 11) (by rw [hρ2]; rfl) ?_ t11
      have := len_at (i := 6) (ρ := ρ2) (M := M9.set M5.length (.lst P4)) (x := .lst L) (L := L) (by rw [hρ2]; rfl) rfl (fun z e => by cases e)
      rw [this, hlL]; rfl
end LW
set_option Elab.async false
set_option linter.all false
set_option maxRecDepth 100000
set_option maxHeartbeats 4000000
namespace LW
open PySem PySem.Spec Br
theorem sl_take {f : FE} {ρ : En} {M : Mem} {xs : List D} {k : Nat} (h : ρ[1]? = some (some (.tup xs))) (hf : f ρ M = .ok (.int (k : Int)) M) : (eSl (eV 1) oN (oS f)) ρ M = .ok (.tup (xs.take k)) M := by
  have e : cutD xs none (some (k : Int)) = xs.take k := by
    unfold cutD
    rw [HT.sIx_none, HT.sIx_nat, List.drop_zero, Nat.sub_zero]
    by_cases hk : k ≤ xs.length
    · rw [Nat.min_eq_left hk]
    · rw [Nat.min_eq_right (by omega), List.take_of_length_le (Nat.le_refl _), List.take_of_length_le (by omega)]
  simp [eSl, eV, h, R.bind, oN, oS, hf, gSl, e]
theorem sl_drop {f : FE} {ρ : En} {M : Mem} {xs : List D} {k : Nat} (h : ρ[1]? = some (some (.tup xs))) (hf : f ρ M = .ok (.int (k : Int)) M) : (eSl (eV 1) (oS f) oN) ρ M = .ok (.tup (xs.drop k)) M := by
  have e : cutD xs (some (k : Int)) none = xs.drop k := by
    unfold cutD
    rw [HT.sIx_none, HT.sIx_nat]
    by_cases hk : k ≤ xs.length
    · rw [Nat.min_eq_left hk, List.take_of_length_le (by rw [List.length_drop]; exact Nat.le_refl _)]
    · rw [Nat.min_eq_right (by omega), List.drop_of_length_le (Nat.le_refl _), List.drop_of_length_le (by omega)]; simp
  simp [eSl, eV, h, R.bind, oN, oS, hf, gSl, e]
theorem add_tup {fa fb : FE} {ρ : En} {M M1 M2 : Mem} {xs ys : List D} (ha : fa ρ M = .ok (.tup xs) M1) (hb : fb ρ M1 = .ok (.tup ys) M2) (hl : xs.length + ys.length ≤ sizeLine) : (Br.e2 gAdd fa fb) ρ M = .ok (.tup (xs ++ ys)) M2 := by
  unfold Br.e2; rw [ha]; dsimp only [R.bind]; rw [hb]; dsimp only; unfold gAdd; dsimp only; rw [if_pos hl]
theorem tand_t {t u : FT} {ρ : En} {M M1 : Mem} {r : R Bool} (h : t ρ M = .ok true M1) (k : u ρ M1 = r) : tAnd t u ρ M = r := by unfold tAnd; rw [h]; exact k
theorem tand_f {t u : FT} {ρ : En} {M M1 : Mem} (h : t ρ M = .ok false M1) : tAnd t u ρ M = .ok false M1 := by unfold tAnd; rw [h]; rfl
theorem tT_of {f : FE} {ρ : En} {M M1 : Mem} {b : Bool} (h : f ρ M = .ok (.bl b) M1) : tT f ρ M = .ok b M1 := by unfold tT; rw [h]; rfl
theorem par2 {fa fb : FE} {i j : Nat} {ρ : En} {M M1 M2 : Mem} {x y : D} (h1 : fa ρ M = .ok x M1) (h2 : fb ρ M1 = .ok y M2) : sPar [i, j] (aC fa (aC fb aN)) ρ M = .go .nx ((ρ.set i (some x)).set j (some y)) M2 := by
  simp [sPar, aC, h1, h2, R.bind, aN, SR.of]
theorem gt_of {f : FE} {ρ : En} {M M1 : Mem} {i : Int} (h : f ρ M = .ok (.int i) M1) : Br.tC (Br.e2 gGt f (eC (D.int 0))) ρ M = .ok (decide (0 < i)) M1 := by
  unfold Br.tC Br.e2; rw [h]; rfl
theorem lt_of {i : Nat} {ρ : En} {M : Mem} {x c : Int} (h : ρ[i]? = some (some (.int x))) : Br.tC (Br.e2 gLt (eV i) (eC (D.int c))) ρ M = .ok (decide (x < c)) M := by
  unfold Br.tC Br.e2 eV; rw [h]; rfl
theorem addv {i : Nat} {ρ : En} {M : Mem} {x c : Int} (h : ρ[i]? = some (some (.int x))) : (Br.e2 gAdd (eV i) (eC (D.int c))) ρ M = .ok (.int (x + c)) M := by
  unfold Br.e2 eV; rw [h]; rfl
theorem evi {i : Nat} {ρ : En} {M : Mem} {d : D} (h : ρ[i]? = some (some d)) : eV i ρ M = .ok d M := by unfold eV; rw [h]
/-- a component replaced -/
theorem repl_ts {B n w : Nat} {xs : List D} {i : Nat} {x y : D} (h : Ts B n w xs) (hx : xs[i]? = some x) {m v : Nat} (hy : Tn (B + 1) m (2 * wtD x + v) y) (hm : n ≤ m) : Ts (B + 1) m (2 * w + v) (xs.take i ++ [y] ++ xs.drop (i + 1)) ∧ wtD x ≤ w ∧ Tn B n (wtD x) x := by
  have hi := (List.getElem?_eq_some_iff.mp hx).1
  have e : xs = xs.take i ++ [x] ++ xs.drop (i + 1) := by
    have h1 : xs.drop i = x :: xs.drop (i + 1) := by
      rw [List.drop_eq_getElem_cons hi]
      congr 1
      exact (List.getElem?_eq_some_iff.mp hx).2
    rw [List.append_assoc, List.singleton_append, ← h1, List.take_append_drop]
  have a := h.ok; have b := h.dp; have c := h.wt
  rw [e, okDs_app, okDs_app, Bool.and_eq_true, Bool.and_eq_true] at a
  rw [e, dpDs_app, dpDs_app] at b
  rw [e, wtDs_app, wtDs_app] at c
  have a2 : okD B x = true := by simpa [okDs] using a.1.2
  have b2 : dpDs [x] = dpD x := by simp [dpDs]
  have c2 : wtDs [x] = wtD x + 1 := by simp [wtDs]
  rw [b2] at b
  rw [c2] at c
  have t1 : Ts (B + 1) m (wtDs (xs.take i)) (xs.take i) := ⟨okDs_mono (Nat.le_succ _) _ a.1.1, by omega, Nat.le_refl _⟩
  have t3 : Ts (B + 1) m (wtDs (xs.drop (i + 1))) (xs.drop (i + 1)) := ⟨okDs_mono (Nat.le_succ _) _ a.2, by omega, Nat.le_refl _⟩
  have q := (t1.app (Ts.one hy)).app t3
  exact ⟨⟨q.ok, q.dp, by have := q.wt; omega⟩, by omega, ⟨a2, by omega, Nat.le_refl _⟩⟩
end LW
set_option Elab.async false
set_option linter.all false
set_option maxRecDepth 100000
set_option maxHeartbeats 4000000
namespace LW
open PySem PySem.Spec Br
theorem Ts.mono {B B' n n' w w' : Nat} {xs : List D} (h : Ts B n w xs) (h1 : B ≤ B') (h2 : n ≤ n') (h3 : w ≤ w') : Ts B' n' w' xs := ⟨okDs_mono h1 xs h.ok, Nat.le_trans h.dp h2, Nat.le_trans h.wt h3⟩
theorem Ts.take {B n w : Nat} {xs : List D} (h : Ts B n w xs) (i : Nat) : Ts B n w (xs.take i) := by
  obtain ⟨u, v, e, a, b⟩ := take_drop h i
  exact a.mono (Nat.le_refl _) (Nat.le_refl _) (by omega)
theorem Ts.drop {B n w : Nat} {xs : List D} (h : Ts B n w xs) (i : Nat) : Ts B n w (xs.drop i) := by
  obtain ⟨u, v, e, a, b⟩ := take_drop h i
  exact b.mono (Nat.le_refl _) (Nat.le_refl _) (by omega)
theorem catV_of {fa fb : FE} {ρ : En} {M : Mem} {xs ys : List D} (ha : fa ρ M = .ok (.lst xs) M) (hb : fb ρ M = .ok (.lst ys) M) (hl : xs.length + ys.length ≤ sizeLine) : (Br.e2 gCatV fa fb) ρ M = .ok (.lst (xs ++ ys)) M := by
  unfold Br.e2; rw [ha]; dsimp only [R.bind]; rw [hb]; dsimp only; unfold gCatV; dsimp only [seqL]; rw [if_pos hl]
theorem isi_of {e : FE} {ρ : En} {M : Mem} {d : D} {T : String} {t : String} (hv : e ρ M = .ok d M) (ht : tyD M d = some t) (hT : T ∈ tyNames) : (eL gIsi (aC e (aC (eC (D.ty T)) aN))) ρ M = .ok (.bl (isiB t T)) M := by
  simp [eL, aC, aN, eC, R.bind, hv, gIsi, ht, hT]
theorem tn_str_int {i : Int} (h : i.natAbs < 10 ^ 46) (n w B : Nat) (hw : 47 ≤ w) : Tn B n w (.str (toString i : String)) ∧ i.natAbs.log2 < 1920 := by
  refine ⟨⟨?_, Nat.zero_le _, ?_⟩, ?_⟩
  · show PyData.strOk (PySem.Str.ofString (toString i)) = true
    unfold PyData.strOk
    rw [← Array.all_toList]
    refine List.all_eq_true.mpr fun c hc => decide_eq_true ?_
    have := PySem.W.KSb.asc_num i c hc
    omega
  · show (PySem.Str.ofString (toString i)).length ≤ w
    rw [PySem.ofString_length]
    exact Nat.le_trans (int_text_length_le10 (k := 46) (by decide) h) hw
  · have := log_lt (Nat.lt_trans h (by decide : 10 ^ 46 < 10 ^ 50))
    omega
theorem bent_tail (self : FL) {M1 : Mem} {n : Nat} {b c : Int} {B m w : Nat} {d : D} (B1 : Bag M1 n b c) (hc : c < 2 ^ 28) (hd : Tn B m w d) (hB : 41 ≤ B) (hB2 : B ≤ 45) (hm40 : m ≤ 40) (hw : w ≤ 4000) :
    ∃ (d' : D) (M' : Mem), (∃ ρ2, l0__law_bent self [some (.ref n), some d, none, none, none, none] M1 = .go (.ret d') ρ2 M') ∧ Tn (B + 1) (m + 3) (2 * w + 1000) d' ∧ Bag M' n b (c + 3) := by
  have hth : Th d := hd.th (by omega) (by omega) (by omega)
  have hc2 : c < 268435456 := hc
  obtain ⟨o, M2, t2, ho, B2⟩ := any_ok B1 (by omega)
  obtain ⟨y, M3, y0, y1, t3, l3, f3, B3⟩ := B2.take (m := 8) (by omega) (by decide) (by decide)
  have ho2 : Tn (B + 1) (m + 3) (2 * w + 1000) o := ho.mono (by omega) (by omega) (by omega)
  obtain ⟨ρ, hρ⟩ : ∃ ρ : En, ρ = [some (.ref n), some d, some o, some (.int y), none, none] := ⟨_, rfl⟩
  have r1 : ρ[1]? = some (some d) := by rw [hρ]; rfl
  have r3 : ρ[3]? = some (some (.int y)) := by rw [hρ]; rfl
  have step2 : sPar [2, 3] (aC (eL (gCall 1 (fun ds _ => ds) m__law_any) (aC (eV 0) aN)) (aC (eL (gCall 2 (fun ds _ => ds) m__law_take) (aC (eV 0) (aC (eC (D.int 8)) aN))) aN)) [some (.ref n), some d, none, none, none, none] M1 = .go .nx ρ M3 := by
    rw [hρ]; exact par2 (call1 rfl t2) (call2 rfl rfl t3)
  have hit := is_tup (ρ := ρ) (i := 1) (th_plain hth) M3 r1
  unfold l0__law_bent
  by_cases hlt : y < 5
  · by_cases htup : ∃ xs, d = .tup xs
    · obtain ⟨xs, rfl⟩ := htup
      have hl := lt_of (M := M3) (c := 5) r3
      rw [decide_eq_true hlt] at hl
      have hlen : xs.length ≤ 4000 := Nat.le_trans (wtDs_len xs) (Nat.le_trans hd.wt hw)
      obtain ⟨j, M4, j0, j1, t4, l4, f4, B4⟩ := B3.take (m := (xs.length : Int) + 1) (by omega) (by omega) (by omega)
      obtain ⟨k, rfl⟩ : ∃ k : Nat, j = (k : Int) := ⟨j.toNat, by omega⟩
      have hts : Ts B m w xs := ⟨by simpa [okD] using hd.ok, by have : dpDs xs + 1 ≤ m := hd.dp; omega, hd.wt⟩
      obtain ⟨ρ4, hρ4⟩ : ∃ ρ4 : En, ρ4 = [some (.ref n), some (.tup xs), some o, some (.int y), some (.int (k : Int)), none] := ⟨_, rfl⟩
      have q1 : ρ4[1]? = some (some (.tup xs)) := by rw [hρ4]; rfl
      have q4 : ρ4[4]? = some (some (.int (k : Int))) := by rw [hρ4]; rfl
      have v4 : eV 4 ρ4 M4 = .ok (.int (k : Int)) M4 := evi q4
      have v41 : (Br.e2 gAdd (eV 4) (eC (D.int 1))) ρ4 M4 = .ok (.int ((k + 1 : Nat) : Int)) M4 := by
        have := addv (M := M4) (c := 1) q4
        rw [this]; rfl
      obtain ⟨L, hL⟩ : ∃ L, L = [D.lst xs, .tup (xs.take k ++ xs.drop (k + 1)), .tup (xs.take k ++ [o] ++ xs.drop k), .tup xs.reverse] := ⟨_, rfl⟩
      obtain ⟨dup, hdup⟩ : ∃ dup, dup = D.tup (xs.take (k + 1) ++ xs.drop k) := ⟨_, rfl⟩
      have lt1 : ∀ i, (xs.take i).length ≤ 4000 := fun i => by rw [List.length_take]; omega
      have lt2 : ∀ i, (xs.drop i).length ≤ 4000 := fun i => by rw [List.length_drop]; omega
      have szl : ∀ {a b : Nat}, a ≤ 5000 → b ≤ 5000 → a + b ≤ sizeLine := fun h1 h2 => Nat.le_trans (Nat.add_le_add h1 h2) (by decide)
      have eL4 : (eL gLst (aC (eL gLstV (aC (eV 1) aN)) (aC (Br.e2 gAdd (eSl (eV 1) oN (oS (eV 4))) (eSl (eV 1) (oS (Br.e2 gAdd (eV 4) (eC (D.int 1)))) oN)) (aC (Br.e2 gAdd (Br.e2 gAdd (eSl (eV 1) oN (oS (eV 4))) (eL gTup (aC (eV 2) aN))) (eSl (eV 1) (oS (eV 4)) oN)) (aC (Br.e1 gRev (eV 1)) aN))))) ρ4 M4 = .ok (.lst L) M4 := by
        rw [hL]
        refine lst_ok (aC_ok (x := .lst xs) (M1 := M4) ?_ (aC_ok (M1 := M4) (add_tup (sl_take q1 v4) (sl_drop q1 v41) (szl (Nat.le_trans (lt1 _) (by decide)) (Nat.le_trans (lt2 _) (by decide)))) (aC_ok (M1 := M4) (add_tup (add_tup (ys := [o]) (sl_take q1 v4) (tup_ok (xs := [o]) (aC_ok (x := o) (M1 := M4) (by rw [hρ4]; rfl) rfl) (by show 1 ≤ sizeLine; decide)) (szl (Nat.le_trans (lt1 _) (by decide)) (by show 1 ≤ 5000; decide))) (sl_drop q1 v4) (szl (by rw [List.length_append]; have := lt1 k; simp only [List.length_singleton]; omega) (Nat.le_trans (lt2 _) (by decide)))) (aC_ok (x := .tup xs.reverse) (M1 := M4) (by rw [hρ4]; rfl) rfl)))) (by show 4 ≤ sizeLine; decide)
        rw [hρ4]; rfl
      obtain ⟨i, rfl⟩ : ∃ i : Nat, y = (i : Int) := ⟨y.toNat, by omega⟩
      have hiL : i < (L ++ [dup]).length := by rw [hL]; show i < 5; omega
      have tB : Ts (B + 1) (m + 2) w xs := hts.mono (by omega) (by omega) (Nat.le_refl _)
      have hall : ∀ z ∈ L ++ [dup], Tn (B + 1) (m + 3) (2 * w + 1000) z := by
        intro z hz
        rw [hL, hdup] at hz
        simp only [List.mem_append, List.mem_cons, List.not_mem_nil, or_false] at hz
        rcases hz with (rfl | rfl | rfl | rfl) | rfl
        · exact tB.lst.mono (Nat.le_refl _) (by omega) (by omega)
        · exact ((tB.take k).app (tB.drop (k + 1))).tup.mono (Nat.le_refl _) (by omega) (by omega)
        · obtain ⟨u, v, huv, h1, h2⟩ := take_drop tB k
          exact ((h1.app (Ts.one (ho.mono (by omega) (by omega) (Nat.le_refl _)))).app h2).tup.mono (Nat.le_refl _) (by omega) (by omega)
        · exact tB.rev.tup.mono (Nat.le_refl _) (by omega) (by omega)
        · exact ((tB.take (k + 1)).app (tB.drop k)).tup.mono (Nat.le_refl _) (by omega) (by omega)
      refine ⟨(L ++ [dup])[i], M4, step_ex step2 ⟨ρ4.set 5 (some (.lst L)), go_ret (if_t (M1 := M3) (tand_t (tT_of hit) hl) ?_)⟩, hall _ (List.getElem_mem hiL), B4.more (by omega)⟩
      refine go_step (ρ1 := ρ4) (M1 := M4) ?_ (go_step (asg_ok eL4) (ret_ok ?_))
      · have hlc : (Br.e2 gAdd (eL gLen (aC (eV 1) aN)) (eC (D.int 1))) ρ M3 = .ok (.int ((xs.length : Int) + 1)) M3 := by
          unfold Br.e2
          rw [len_of r1]; rfl
        have := asg_ok (k := 4) (call2 (m := m__law_take) (a := eV 0) (ρ := ρ) (M := M3) (x := .ref n) (by rw [hρ]; rfl) hlc t4)
        rw [this, hρ, hρ4]; rfl
      · have g5 : (ρ4.set 5 (some (.lst L)))[1]? = some (some (.tup xs)) := by rw [hρ4]; rfl
        have w4 : eV 4 (ρ4.set 5 (some (.lst L))) M4 = .ok (.int (k : Int)) M4 := by rw [hρ4]; rfl
        have w41 : (Br.e2 gAdd (eV 4) (eC (D.int 1))) (ρ4.set 5 (some (.lst L))) M4 = .ok (.int ((k + 1 : Nat) : Int)) M4 := by
          have := addv (i := 4) (ρ := ρ4.set 5 (some (.lst L))) (M := M4) (x := (k : Int)) (c := 1) (by rw [hρ4]; rfl)
          rw [this]; rfl
        refine ix_of (x := .lst (L ++ [dup])) (i := i) (L := L ++ [dup]) (M1 := M4) (M2 := M4) ?_ (by rw [hρ4]; rfl) rfl (fun z e => by cases e) (List.getElem?_eq_getElem hiL)
        refine catV_of (by rw [hρ4]; rfl) ?_ (by rw [hL]; show 4 + 1 ≤ sizeLine; decide)
        rw [hdup]
        exact lst_ok (aC_ok (M1 := M4) (add_tup (sl_take g5 w41) (sl_drop g5 w4) (szl (Nat.le_trans (lt1 _) (by decide)) (Nat.le_trans (lt2 _) (by decide)))) rfl) (by show 1 ≤ sizeLine; decide)
    · have e1 : isTupB d = false := by cases d <;> first | rfl | exact absurd ⟨_, rfl⟩ htup
      rw [e1] at hit
      by_cases hint : ∃ i, d = .int i
      · obtain ⟨i, rfl⟩ := hint
        have hi : i.natAbs < 10 ^ B := by simpa [okD] using hd.ok
        have hpB : (10 : Nat) ^ (B + 1) = 10 ^ B * 10 := Nat.pow_succ _ _
        have hp1 : 10 ≤ 10 ^ B := Nat.le_trans (by decide : 10 ≤ 10 ^ 1) (Nat.pow_le_pow_right (by decide) (by omega))
        have h46 : i.natAbs < 10 ^ 46 := Nat.lt_of_lt_of_le hi (Nat.pow_le_pow_right (by decide) (by omega))
        obtain ⟨ts, hlog⟩ := tn_str_int h46 (m + 3) (2 * w + 1000) (B + 1) (by omega)
        have ti : ∀ j : Int, j.natAbs < 10 ^ (B + 1) → Tn (B + 1) (m + 3) (2 * w + 1000) (.int j) := fun j hj => ⟨decide_eq_true hj, Nat.zero_le _, by show 200 ≤ 2 * w + 1000; omega⟩
        have hl := lt_of (M := M3) (c := 5) r3
        rw [decide_eq_true hlt] at hl
        have g1 := isi_of (e := eV 1) (ρ := ρ) (M := M3) (T := "int") (evi r1) rfl (by decide)
        have g2 := isi_of (e := eV 1) (ρ := ρ) (M := M3) (T := "bool") (evi r1) rfl (by decide)
        obtain ⟨L, hL⟩ : ∃ L, L = [D.int (i + 1), .int (i - 1), .bl (i == 1), .int (i + 4), .str (toString i : String)] := ⟨_, rfl⟩
        obtain ⟨k, rfl⟩ : ∃ k : Nat, y = (k : Int) := ⟨y.toNat, by omega⟩
        have hkL : k < L.length := by rw [hL]; show k < 5; omega
        have hall : ∀ z ∈ L, Tn (B + 1) (m + 3) (2 * w + 1000) z := by
          intro z hz
          rw [hL] at hz
          simp only [List.mem_cons, List.not_mem_nil, or_false] at hz
          rcases hz with rfl | rfl | rfl | rfl | rfl
          · exact ti _ (by omega)
          · exact ti _ (by omega)
          · exact ⟨rfl, Nat.zero_le _, Nat.zero_le _⟩
          · exact ti _ (by omega)
          · exact ts
        refine ⟨L[k], M3, step_ex step2 (step_ex (if_f (tand_f (tT_of hit)) rfl) ⟨ρ, go_ret (if_t (M1 := M3) (tand_t (tT_of g1) (tand_t (not_b g2) hl)) (ret_ok ?_))⟩), hall _ (List.getElem_mem hkL), B3.more (by omega)⟩
        have sb : (Br.e2 gSub (eV 1) (eC (D.int 1))) ρ M3 = .ok (.int (i - 1)) M3 := by unfold Br.e2 eV; rw [r1]; rfl
        have eqv : (Br.e2 gEq (eV 1) (eC (D.int 1))) ρ M3 = .ok (.bl (i == 1)) M3 := by unfold Br.e2 eV; rw [r1]; rfl
        have stv : (eL gStr (aC (eV 1) aN)) ρ M3 = .ok (.str (toString i : String)) M3 := by
          simp [eL, aC, aN, eV, r1, R.bind, gStr, hlog]
        refine ix_of (x := .lst L) (i := k) (L := L) (M1 := M3) (M2 := M3) ?_ (by unfold eV; rw [r3]) rfl (fun z e => by cases e) (List.getElem?_eq_getElem hkL)
        rw [hL]
        exact lst_ok (aC_ok (M1 := M3) (addv r1) (aC_ok (M1 := M3) sb (aC_ok (M1 := M3) eqv (aC_ok (M1 := M3) (addv r1) (aC_ok (M1 := M3) stv rfl))))) (by show 5 ≤ sizeLine; decide)
      · -- not an int: other
        refine ⟨o, M3, step_ex step2 (step_ex (if_f (tand_f (tT_of hit)) rfl) ?_), ho2, B3.more (by omega)⟩
        have hfin : sRet (eV 2) ρ M3 = .go (.ret o) ρ M3 := ret_ok (by rw [hρ]; rfl)
        cases d with
        | int i => exact absurd ⟨i, rfl⟩ hint
        | bl bb =>
          have g1 := isi_of (e := eV 1) (ρ := ρ) (M := M3) (T := "int") (evi r1) rfl (by decide)
          have g2 := isi_of (e := eV 1) (ρ := ρ) (M := M3) (T := "bool") (evi r1) rfl (by decide)
          exact step_ex (if_f (tand_t (tT_of g1) (tand_f (not_b g2))) rfl) ⟨ρ, hfin⟩
        | non => exact step_ex (if_f (tand_f (tT_of (isi_of (e := eV 1) (T := "int") (evi r1) rfl (by decide)))) rfl) ⟨ρ, hfin⟩
        | str z => exact step_ex (if_f (tand_f (tT_of (isi_of (e := eV 1) (T := "int") (evi r1) rfl (by decide)))) rfl) ⟨ρ, hfin⟩
        | lst z => exact step_ex (if_f (tand_f (tT_of (isi_of (e := eV 1) (T := "int") (evi r1) rfl (by decide)))) rfl) ⟨ρ, hfin⟩
        | tup z => exact absurd ⟨z, rfl⟩ htup
        | ref z => exact absurd (th_plain hth) (by simp [plainD])
        | gl z => exact absurd (th_plain hth) (by simp [plainD])
        | ty z => exact absurd (th_plain hth) (by simp [plainD])
  · -- way ≥ 5: other
    have hl := lt_of (M := M3) (c := 5) r3
    rw [decide_eq_false hlt] at hl
    refine ⟨o, M3, step_ex step2 ?_, ho2, B3.more (by omega)⟩
    have hfin : sRet (eV 2) ρ M3 = .go (.ret o) ρ M3 := ret_ok (by rw [hρ]; rfl)
    have s3 : (tAnd (tT (eL gIsi (aC (eV 1) (aC (eC (D.ty "tuple")) aN)))) (Br.tC (Br.e2 gLt (eV 3) (eC (D.int 5))))) ρ M3 = .ok false M3 := by
      by_cases htup : isTupB d = true
      · rw [htup] at hit; exact tand_t (tT_of hit) hl
      · rw [Bool.not_eq_true] at htup; rw [htup] at hit; exact tand_f (tT_of hit)
    refine step_ex (if_f s3 rfl) ?_
    have s4 : (tAnd (tT (eL gIsi (aC (eV 1) (aC (eC (D.ty "int")) aN)))) (tAnd (tNot (tT (eL gIsi (aC (eV 1) (aC (eC (D.ty "bool")) aN))))) (Br.tC (Br.e2 gLt (eV 3) (eC (D.int 5)))))) ρ M3 = .ok false M3 := by
      obtain ⟨t, ht⟩ : ∃ t, tyD M3 d = some t := by
        have hp := th_plain hth
        cases d <;> first | exact ⟨_, rfl⟩ | (cases hp; done)
      have g1 := isi_of (e := eV 1) (ρ := ρ) (M := M3) (T := "int") (evi r1) ht (by decide)
      have g2 := isi_of (e := eV 1) (ρ := ρ) (M := M3) (T := "bool") (evi r1) ht (by decide)
      cases h1 : isiB t "int"
      · rw [h1] at g1; exact tand_f (tT_of g1)
      · rw [h1] at g1
        refine tand_t (tT_of g1) ?_
        cases h2 : isiB t "bool"
        · rw [h2] at g2; exact tand_t (not_b g2) hl
        · rw [h2] at g2; exact tand_f (not_b g2)
    exact step_ex (if_f s4 rfl) ⟨ρ, hfin⟩
end LW
set_option Elab.async false
set_option linter.all false
set_option maxRecDepth 100000
set_option maxHeartbeats 4000000
namespace LW
open PySem PySem.Spec Br
theorem if_x {t : FT} {a b s : FStm} {ρ : En} {M M1 : Mem} {d : D} {M2 : Mem} (h : t ρ M = .ok false M1) (hb : b = sNx) (k : ∃ ρ2, s ρ M1 = .go (.ret d) ρ2 M2) : ∃ ρ2, sSeq (sIf t a b) s ρ M = .go (.ret d) ρ2 M2 := by
  subst hb
  exact step_ex (if_f h rfl) k
theorem bent_ok : ∀ (f : Nat) {M : Mem} {n : Nat} {b c : Int} {B m w : Nat} {d : D}, m < f → f ≤ 9 → Bag M n b c → c + 10 * f < 2 ^ 27 → Tn B m w d → 41 ≤ B → B ≤ 45 → w ≤ 4000 →
    ∃ (d' : D) (M' : Mem), m__law_bent f [.ref n, d] M = .ok d' M' ∧ Tn (B + 1) (m + 3) (2 * w + 1000) d' ∧ Bag M' n b (c + 10 * f) := by
  intro f
  induction f with
  | zero => intro M n b c B m w d h; omega
  | succ f ih =>
    intro M n b c B m w d hm hf B0 hc hd hB hB2 hw
    have hc2 : c + 10 * ((f + 1 : Nat) : Int) < 134217728 := hc
    have hth : Th d := hd.th (by omega) (by omega) (by omega)
    have hit := is_tup (ρ := [some (.ref n), some d, none, none, none, none]) (i := 1) (th_plain hth) M rfl
    have fin : ∀ {M1 : Mem} {c1 : Int}, Bag M1 n b c1 → c1 ≤ c + 1 → (tAnd (tT (eL gIsi (aC (eV 1) (aC (eC (D.ty "tuple")) aN)))) (tAnd (Br.tC (Br.e2 gNe (eV 1) (eL gTup aN))) (Br.tC (Br.e2 gGt (eL (gCall 2 (fun ds _ => ds) m__law_take) (aC (eV 0) (aC (eC (D.int 4)) aN))) (eC (D.int 0)))))) [some (.ref n), some d, none, none, none, none] M = .ok false M1 →
        ∃ (d' : D) (M' : Mem), m__law_bent (f + 1) [.ref n, d] M = .ok d' M' ∧ Tn (B + 1) (m + 3) (2 * w + 1000) d' ∧ Bag M' n b (c + 10 * ((f + 1 : Nat) : Int)) := by
      intro M1 c1 B1 h1 ht
      obtain ⟨d', M', e, t, BB⟩ := bent_tail (m__law_bent f) B1 (by show c1 < 268435456; omega) hd hB hB2 (by omega) hw
      refine ⟨d', M', ?_, t, BB.more (by omega)⟩
      refine run_ex (n := 6) (b := b__law_bent (m__law_bent f)) ?_
      show ∃ ρ2, b__law_bent (m__law_bent f) [some (.ref n), some d, none, none, none, none] M = _
      unfold b__law_bent
      exact if_x ht rfl e
    by_cases htup : ∃ xs, d = .tup xs
    · obtain ⟨xs, rfl⟩ := htup
      have hne : Br.tC (Br.e2 gNe (eV 1) (eL gTup aN)) [some (.ref n), some (.tup xs), none, none, none, none] M = .ok (!(decide (xs = []))) M := tc_of (ne_of' (M := M) rfl rfl (eq_nil hth M))
      by_cases hxs : xs = []
      · refine fin B0 (by omega) (tand_t (tT_of hit) (tand_f ?_))
        rw [hne, decide_eq_true hxs]; rfl
      · rw [decide_eq_false hxs] at hne
        obtain ⟨j, M1, j0, j1, t1, l1, f1, B1⟩ := B0.take (m := 4) (by omega) (by decide) (by decide)
        have hgt := gt_of (call2 (m := m__law_take) (a := eV 0) (b := eC (D.int 4)) (ρ := [some (.ref n), some (.tup xs), none, none, none, none]) (M := M) rfl rfl t1)
        by_cases hj : 0 < j
        · rw [decide_eq_true hj] at hgt
          have hlen : xs.length ≤ 4000 := Nat.le_trans (wtDs_len xs) (Nat.le_trans hd.wt hw)
          have hl0 : 0 < xs.length := List.length_pos_iff.mpr hxs
          obtain ⟨i, M2, i0, i1, t2, l2, f2, B2⟩ := B1.take (m := (xs.length : Int)) (by omega) (by omega) (by omega)
          obtain ⟨k, rfl⟩ : ∃ k : Nat, i = (k : Int) := ⟨i.toNat, by omega⟩
          have hk : k < xs.length := by omega
          have hd1 : 1 ≤ m := Nat.le_trans (by show 1 ≤ dpDs xs + 1; omega) hd.dp
          obtain ⟨m', rfl⟩ : ∃ m', m = m' + 1 := ⟨m - 1, by omega⟩
          have hts : Ts B m' w xs := hd.ts
          have hx : xs[k]? = some xs[k] := List.getElem?_eq_getElem hk
          have r0 := repl_ts (m := m' + 3) (v := 1000) hts hx (y := .non) ⟨rfl, Nat.zero_le _, Nat.zero_le _⟩ (by omega)
          obtain ⟨y, M3, t3, ty, B3⟩ := ih (M := M2) (n := n) (b := b) (c := c + 2) (d := xs[k]) (B := B) (m := m') (w := wtD xs[k]) (by omega) (by omega) (B2.more (by omega)) (by show c + 2 + 10 * (f : Int) < 134217728; omega) r0.2.2 hB hB2 (by have := r0.2.1; omega)
          have r1 := repl_ts (m := m' + 3) (v := 1000) hts hx ty (by omega)
          refine ⟨.tup (xs.take k ++ [y] ++ xs.drop (k + 1)), M3, ?_, r1.1.tup, B3.more (by omega)⟩
          refine run_ex (n := 6) (b := b__law_bent (m__law_bent f)) ?_
          show ∃ ρ2, b__law_bent (m__law_bent f) [some (.ref n), some (.tup xs), none, none, none, none] M = _
          unfold b__law_bent
          refine ⟨_, go_ret (if_t (M1 := M1) (tand_t (tT_of hit) (tand_t hne hgt)) (go_step (ρ1 := [some (.ref n), some (.tup xs), none, none, some (.int (k : Int)), none]) (M1 := M2) (asg_ok (call2 (x := .ref n) (y := .int (xs.length : Int)) rfl (len_of rfl) t2)) (ret_ok ?_)))⟩
          have v4 : ∀ MM, eV 4 [some (.ref n), some (.tup xs), none, none, some (.int (k : Int)), none] MM = .ok (.int (k : Int)) MM := fun MM => rfl
          have v41 : ∀ MM, (Br.e2 gAdd (eV 4) (eC (D.int 1))) [some (.ref n), some (.tup xs), none, none, some (.int (k : Int)), none] MM = .ok (.int ((k + 1 : Nat) : Int)) MM := by
            intro MM
            have := addv (i := 4) (ρ := [some (.ref n), some (.tup xs), none, none, some (.int (k : Int)), none]) (M := MM) (x := (k : Int)) (c := 1) rfl
            rw [this]; rfl
          have szl : ∀ {a b : Nat}, a ≤ 5000 → b ≤ 5000 → a + b ≤ sizeLine := fun h1 h2 => Nat.le_trans (Nat.add_le_add h1 h2) (by decide)
          have lt1 : ∀ i, (xs.take i).length ≤ 4000 := fun i => by rw [List.length_take]; omega
          have lt2 : ∀ i, (xs.drop i).length ≤ 4000 := fun i => by rw [List.length_drop]; omega
          refine add_tup (M1 := M3) (add_tup (M1 := M2) (ys := [y]) (sl_take rfl (v4 M2)) (tup_ok (xs := [y]) (aC_ok (x := y) (M1 := M3) (call2 (x := .ref n) (y := xs[k]) rfl ?_ t3) rfl) (by show 1 ≤ sizeLine; decide)) (szl (Nat.le_trans (lt1 _) (by decide)) (by show 1 ≤ 5000; decide))) (sl_drop rfl (v41 M3)) (szl (by rw [List.length_append]; have := lt1 k; simp only [List.length_singleton]; omega) (Nat.le_trans (lt2 _) (by decide)))
          exact ix_of (x := .tup xs) (i := k) (L := xs) (M1 := M2) (M2 := M2) rfl (v4 M2) rfl (fun z e => by cases e) hx
        · rw [decide_eq_false hj] at hgt
          exact fin B1 (by omega) (tand_t (tT_of hit) (tand_t hne hgt))
    · have e1 : isTupB d = false := by cases d <;> first | rfl | exact absurd ⟨_, rfl⟩ htup
      rw [e1] at hit
      exact fin B0 (by omega) (tand_f (tT_of hit))
end LW
set_option Elab.async false
set_option linter.all false
set_option maxRecDepth 100000
set_option maxHeartbeats 4000000
namespace LW
open PySem PySem.Spec Br
theorem eqb (M : Mem) (x : Bool) : eqD M (.bl x) (.bl x) = some true := by cases x <;> rfl
theorem for_ok {m : Nat} {fw : En → Mem → R Wk} {gg : FG} {b : FStm} {ρ ρ1 : En} {M M1 M2 : Mem} {l : List D} (h : fw ρ M = .ok (.items l) M1) (h2 : sFor gg b l ρ M1 = .go .nx ρ1 M2) : sForE m fw gg b ρ M = .go .nx ρ1 M2 := by
  unfold sForE; rw [h]; exact h2
theorem call3g {m : FL} {a b c : FE} {ρ : En} {M M1 M2 : Mem} {x y z : D} {r : R D} (h : a ρ M = .ok x M) (h2 : b ρ M = .ok y M1) (h3 : c ρ M1 = .ok z M2) (k : m [x, y, z] M2 = r) : (eL (gCall 3 (fun ds _ => ds) m) (aC a (aC b (aC c aN)))) ρ M = r := by
  simpa [eL, aC, aN, h, h2, h3, R.bind, gCall] using k
theorem call1d {m : FL} {a : FE} {ρ : En} {M : Mem} {x : D} {r : R D} (h : a ρ M = .ok x M) (k : m [x, .int 2, .int 2] M = r) : (eL (gCall 1 (fun ds _ => ds ++ [D.int 2, D.int 2]) m) (aC a aN)) ρ M = r := by
  simpa [eL, aC, aN, h, R.bind, gCall] using k
theorem shape_ok {o0 o1 o2 o3 o4 o5 o6 o8 o10 : Option D} {d : D} (h : Th d) {a k : Int} (hk : k = 1 ∨ k = 2) (M : Mem) :
    l0_law [o0, o1, o2, o3, o4, o5, o6, some d, o8, some (.tup [.int a, .int k]), o10] M = .go .nx [o0, o1, o2, o3, o4, o5, o6, some d, o8, some (.tup [.int a, .int k]), some (.bl (isL a k d))] M := by
  unfold l0_law
  refine go_step (asg_ok (d := .bl (isL a k d)) (M1 := M) ?_) ?_
  · have e : (eK 1 2 (fun ds es => pk ds 0 ++ (pk es 0 ++ (pk es 1 ++ ([])))) m_is_layer (aC (eV 7) aN) (aC (Br.e2 gIx (eV 9) (eC (D.int 0))) (aC (Br.e2 gIx (eV 9) (eC (D.int 1))) aN))) [o0, o1, o2, o3, o4, o5, o6, some d, o8, some (.tup [.int a, .int k]), o10] M = m_is_layer [d, .int a, .int k] M := rfl
    rw [e]; exact layer_ok h hk M
  · have g1 := isi_of (e := eV 10) (ρ := [o0, o1, o2, o3, o4, o5, o6, some d, o8, some (.tup [.int a, .int k]), some (.bl (isL a k d))]) (M := M) (T := "bool") (d := .bl (isL a k d)) rfl rfl (by decide)
    refine if_f (M1 := M) (or_f (not_b g1) (tc_of (ne_of' (M := M) (x := .bl (isL a k d)) (y := .bl (isL a k d)) rfl ?_ (eqb M _)))) rfl
    exact call3 (M := M) (x := d) (y := .int a) (z := .int k) rfl rfl rfl (llayer_ok h hk M)
def shapes : List D := [.tup [.int 1, .int 1], .tup [.int 1, .int 2], .tup [.int 2, .int 1], .tup [.int 2, .int 2]]
theorem shapes_at {i : Nat} {x : D} (h : shapes[i]? = some x) : ∃ a k : Int, x = .tup [.int a, .int k] ∧ (k = 1 ∨ k = 2) := by
  have hm : x ∈ shapes := List.mem_of_getElem? h
  simp only [shapes, List.mem_cons, List.not_mem_nil, or_false] at hm
  rcases hm with rfl | rfl | rfl | rfl
  · exact ⟨1, 1, rfl, .inl rfl⟩
  · exact ⟨1, 2, rfl, .inr rfl⟩
  · exact ⟨2, 1, rfl, .inl rfl⟩
  · exact ⟨2, 2, rfl, .inr rfl⟩
theorem thing_ok {o0 o1 o2 o3 o4 o5 o6 o8 o9 o10 : Option D} {d : D} (h : Th d) (M : Mem) :
    ∃ p8 p9 p10, l1_law [o0, o1, o2, o3, o4, o5, o6, some d, o8, o9, o10] M = .go .nx [o0, o1, o2, o3, o4, o5, o6, some d, p8, p9, p10] M := by
  obtain ⟨z, hz⟩ := repr_okD (B := 50) (by decide) (by decide) h.ok (Nat.le_trans h.dp (by decide)) (Nat.le_trans h.wt (by decide)) M
  let I : Nat → En → Mem → Prop := fun _ ρ M2 => M2 = M ∧ ∃ p9 p10, ρ = [o0, o1, o2, o3, o4, o5, o6, some d, some (.str z), p9, p10]
  obtain ⟨ρ2, M2, j1, j2⟩ := sFor_at (gg := gN 9) (b := l0_law) I shapes shapes 0 [o0, o1, o2, o3, o4, o5, o6, some d, some (.str z), o9, o10] M rfl ⟨rfl, _, _, rfl⟩ (by
    rintro x i ρ M3 hx ⟨rfl, p9, p10, rfl⟩
    obtain ⟨a, k, rfl, hk⟩ := shapes_at hx
    exact ⟨_, _, _, _, rfl, shape_ok h hk _, rfl, _, _, rfl⟩)
  obtain ⟨rfl, p9, p10, rfl⟩ := j2
  have hrep : ∀ ρ : En, ρ[7]? = some (some d) → (eL gRepr (aC (eV 7) aN)) ρ M2 = .ok (.str z) M2 := fun ρ hr => by
    simp [eL, aC, aN, eV, hr, R.bind, hz]
  refine ⟨some (.str z), p9, p10, ?_⟩
  unfold l1_law
  refine go_step (asg_ok (hrep _ rfl)) (go_step (for_ok (l := shapes) rfl j1) ?_)
  refine if_f (M1 := M2) (or_f (tc_of (ne_of' (M := M2) (x := .bl (isL 2 2 d)) (y := .bl (isL 2 2 d)) ?_ ?_ (eqb _ _))) (tc_of (ne_of' (M := M2) (x := .str z) (y := .str z) (hrep _ rfl) rfl (eqs (decide_eq_true rfl))))) rfl
  · exact call1d (x := d) rfl (layer_ok h (.inr rfl) M2)
  · exact call3 (x := d) (y := .int 2) (z := .int 2) rfl rfl rfl (llayer_ok h (.inr rfl) M2)
end LW
set_option Elab.async false
set_option linter.all false
set_option maxRecDepth 100000
set_option maxHeartbeats 4000000
namespace LW
open PySem PySem.Spec Br
theorem cut_ts {B n w : Nat} {xs : List D} (h : Ts B n w xs) (lo hi : Option Int) : Ts B n w (cutD xs lo hi) := by unfold cutD; exact (h.drop _).take _
theorem turn_ok {S A o2 t o5 o6 o7 o8 o9 o10 : Option D} {M : Mem} {n : Nat} {b c : Int} (B0 : Bag M n b c) (hc : c < 2 ^ 20) :
    ∃ p5 p6 p7 p8 p9 p10 M', l2_law [S, A, o2, some (.ref n), t, o5, o6, o7, o8, o9, o10] M = .go .nx [S, A, o2, some (.ref n), t, p5, p6, p7, p8, p9, p10] M' ∧ Bag M' n b (c + 200) := by
  have hc' : c < 1048576 := hc
  obtain ⟨i, M1, i0, i1, t1, l1, f1, B1⟩ := B0.take (m := 2) (by omega) (by decide) (by decide)
  obtain ⟨j, M2, j0, j1, t2, l2, f2, B2⟩ := B1.take (m := 2) (by omega) (by decide) (by decide)
  obtain ⟨d, M3, t3, ⟨td, xs, rfl⟩, B3⟩ := layer_gen (a := 1 + i) (k := 1 + j) B2 (by omega) (by omega) (by omega)
  obtain ⟨e, M4, t4, te, B4⟩ := bent_ok 8 (by decide) (by decide) B3 (by omega) td (by decide) (by decide) (by decide)
  obtain ⟨e2, M5, t5, te2, B5⟩ := bent_ok 8 (by decide) (by decide) B4 (by omega) te (by decide) (by decide) (by decide)
  obtain ⟨o, M6, t6, to, B6⟩ := any_ok B5 (by omega)
  obtain ⟨L, hL⟩ : ∃ L, L = [D.tup xs, e, e2, .lst xs, .tup (xs ++ [.int 0]), .tup (cutD xs none (some (-1))), o] := ⟨_, rfl⟩
  have hxs : Ts 41 1 1200 xs := td.ts
  have hlen : xs.length ≤ 1200 := hxs.len
  have hall : ∀ z ∈ L, Th z := by
    intro z hz
    rw [hL] at hz
    simp only [List.mem_cons, List.not_mem_nil, or_false] at hz
    rcases hz with rfl | rfl | rfl | rfl | rfl | rfl | rfl
    · exact td.th (by decide) (by decide) (by decide)
    · exact te.th (by decide) (by decide) (by decide)
    · exact te2.th (by decide) (by decide) (by decide)
    · exact hxs.lst.th (by decide) (by decide) (by decide)
    · exact (hxs.app (Ts.one ((tn_int (i := 0) (by decide) (by decide)).mono (Nat.le_refl _) (by decide) (Nat.le_refl _)))).tup.th (by decide) (by decide) (by decide)
    · exact (cut_ts hxs _ _).tup.th (by decide) (by decide) (by decide)
    · exact to.th (by decide) (by decide) (by decide)
  let I : Nat → En → Mem → Prop := fun _ ρ M' => M' = M6 ∧ ∃ p7 p8 p9 p10, ρ = [S, A, o2, some (.ref n), t, some (.tup xs), some e, p7, p8, p9, p10]
  obtain ⟨ρ2, M7, j1, j2⟩ := sFor_at (gg := gN 7) (b := l1_law) I L L 0 [S, A, o2, some (.ref n), t, some (.tup xs), some e, o7, o8, o9, o10] M6 rfl ⟨rfl, _, _, _, _, rfl⟩ (by
    rintro x i ρ M' hx ⟨rfl, p7, p8, p9, p10, rfl⟩
    obtain ⟨q8, q9, q10, h1⟩ := thing_ok (o0 := S) (o1 := A) (o2 := o2) (o3 := some (.ref n)) (o4 := t) (o5 := some (.tup xs)) (o6 := some e) (o8 := p8) (o9 := p9) (o10 := p10) (hall x (List.mem_of_getElem? hx)) M'
    exact ⟨_, _, _, _, rfl, h1, rfl, _, _, _, _, rfl⟩)
  obtain ⟨rfl, p7, p8, p9, p10, rfl⟩ := j2
  refine ⟨some (.tup xs), some e, p7, p8, p9, p10, M7, ?_, B6.more (by omega)⟩
  unfold l2_law
  refine go_step (asg_ok (call3g (x := .ref n) (y := .int (1 + i)) (z := .int (1 + j)) rfl (add1 (call2 rfl rfl t1)) (add1 (call2 rfl rfl t2)) t3)) ?_
  refine go_step (asg_ok (call2 (x := .ref n) (y := .tup xs) rfl rfl t4)) ?_
  refine for_ok (l := L) (M1 := M7) ?_ j1
  have e0 : ∀ {g : FA} {ρ : En} {Ma Mb : Mem}, eL gLst g ρ Ma = .ok (.lst L) Mb → wIt (eL gLst g) ρ Ma = .ok (.items L) Mb := fun h => by unfold wIt; rw [h]; rfl
  refine e0 (lst_ok ?_ (by rw [hL]; show 7 ≤ sizeLine; decide))
  rw [hL]
  refine aC_ok (M1 := M4) rfl (aC_ok (M1 := M4) rfl (aC_ok (M1 := M5) (call2 (x := .ref n) (y := e) rfl rfl t5) (aC_ok (M1 := M5) rfl (aC_ok (M1 := M5) (add_tup (M1 := M5) (xs := xs) (ys := [.int 0]) rfl rfl ?_) (aC_ok (M1 := M5) rfl (aC_ok (M1 := M7) (call1 (x := .ref n) rfl t6) rfl))))))
  exact Nat.le_trans (Nat.add_le_add hlen (Nat.le_refl _)) (by show 1200 + 1 ≤ sizeLine; decide)
end LW
set_option Elab.async false
set_option linter.all false
set_option maxRecDepth 100000
set_option maxHeartbeats 4000000
namespace LW
open PySem PySem.Spec Br
theorem aC1_ok {fa : FE} {ρ : En} {M M1 : Mem} {x : D} (h : fa ρ M = .ok x M1) : aC fa aN ρ M = .ok [x] M1 := by
  unfold aC; rw [h]; rfl
theorem rng1_ok {g : FA} {ρ : En} {M M1 : Mem} {j : Int} (h : g ρ M = .ok [.int j] M1) (h1 : 0 ≤ j) (h2 : j < 2 ^ 62) : wRng1 g ρ M = .ok (.items (rangeD 0 j.toNat)) M1 := by
  unfold wRng1; rw [h]; dsimp only [R.bind]; rw [if_pos ⟨by omega, h2⟩]
theorem rangeD_at {n i : Nat} {x : D} (h : (rangeD 0 n)[i]? = some x) : i < n ∧ x = .int i := by
  unfold rangeD at h
  rw [List.getElem?_map] at h
  cases e : (List.range n)[i]? with
  | none => rw [e] at h; cases h
  | some j =>
    rw [e] at h
    obtain ⟨h1, h2⟩ := List.getElem?_eq_some_iff.mp e
    rw [List.getElem_range] at h2
    rw [List.length_range] at h1
    subst h2
    cases h
    exact ⟨h1, by simp⟩
def endD : D := .lst [.bl true, .bl false, .bl false]
theorem end_repr (M : Mem) : gRepr [endD] M = .ok (.str "[True, False, False]") M := by
  obtain ⟨p, q⟩ := okD_py (B := 50) (by decide) (by decide) endD rfl
  have e : p = .list [.bool true, .bool false, .bool false] := by
    have h1 : toPyR (fun _ => none) endD = some (.list [.bool true, .bool false, .bool false]) := rfl
    have h2 := q.py
    rw [h1] at h2
    exact (Option.some.inj h2).symm
  subst e
  unfold gRepr
  dsimp only
  rw [toPy_ok' q]
  dsimp only
  rw [if_pos (by decide +kernel)]
  have : PyData.shown (.list [.bool true, .bool false, .bool false]) = ("[True, False, False]" : Str) := by decide +kernel
  rw [this]
def l1D : D := .tup [.str "limit", .int 0, .int 0]
def l2D : D := .tup [.str "depth", .int 0, .int 0]
def l3D : D := .tup [.str "retry", .int 3, .tup [.int 0]]
theorem l1_is (M : Mem) : m_is_layer [l1D, .int 2, .int 2] M = .ok (.bl true) M := by
  rw [layer_ok ((tn_of (B := 41) (n := 2) (w := 900) (by decide +kernel)).th (by decide) (by decide) (by decide)) (.inr rfl) M, show isL 2 2 l1D = true by decide +kernel]
theorem l2_is (M : Mem) : m_is_layer [l2D, .int 2, .int 2] M = .ok (.bl false) M := by
  rw [layer_ok ((tn_of (B := 41) (n := 2) (w := 900) (by decide +kernel)).th (by decide) (by decide) (by decide)) (.inr rfl) M, show isL 2 2 l2D = false by decide +kernel]
theorem l3_is (M : Mem) : m_is_layer [l3D, .int 2, .int 2] M = .ok (.bl false) M := by
  rw [layer_ok ((tn_of (B := 41) (n := 2) (w := 900) (by decide +kernel)).th (by decide) (by decide) (by decide)) (.inr rfl) M, show isL 2 2 l3D = false by decide +kernel]
theorem plain (ns : List Int) (hns : ns.length ≤ 63) : ∃ M, m_law [scriptD ns] [] = .ok (.bl true) M := by
  let I : Nat → En → Mem → Prop := fun _ ρ _ => ∃ o1 o2 o3 o4 o5 o6 o7 o8 o9 o10, ρ = [some (scriptD ns), o1, o2, o3, o4, o5, o6, o7, o8, o9, o10]
  obtain ⟨k, hk, hr⟩ : ∃ k : Nat, k ≤ 6 ∧ (wRng1 (aC (eL gMax (aC (eC (D.int 2)) (aC (eL gMin (aC (eC (D.int 6)) (aC (eL gLen (aC (eV 0) aN)) aN))) aN))) aN)) [some (scriptD ns), none, none, none, none, none, none, none, none, none, none] [] = .ok (.items (rangeD 0 k)) [] := by
    have h0 : (eL gMax (aC (eC (D.int 2)) (aC (eL gMin (aC (eC (D.int 6)) (aC (eL gLen (aC (eV 0) aN)) aN))) aN))) [some (scriptD ns), none, none, none, none, none, none, none, none, none, none] [] = .ok (.int ((max 2 (min 6 ns.length) : Nat) : Int)) [] := by
      simp [eL, aC, aN, eV, eC, gLen, gMax, gMin, R.bind, seqA, seqL, scriptD]
      split <;> omega
    refine ⟨max 2 (min 6 ns.length), by omega, ?_⟩
    exact (rng1_ok (aC1_ok h0) (by omega) (by omega)).trans (by rw [Int.toNat_natCast])
  obtain ⟨ρ', M', h1, h2⟩ := sFor_at (gg := gN 1) (b := l3_law) I (rangeD 0 k) (rangeD 0 k) 0 [some (scriptD ns), none, none, none, none, none, none, none, none, none, none] [] rfl ⟨_, _, _, _, _, _, _, _, _, _, rfl⟩ (by
    rintro x i ρ M hx ⟨o1, o2, o3, o4, o5, o6, o7, o8, o9, o10, rfl⟩
    obtain ⟨hi, rfl⟩ := rangeD_at hx
    obtain ⟨b, M1, g1, g2, g3, B⟩ := bag_new ns M i (by omega)
    let J : Nat → En → Mem → Prop := fun t ρ M2 => ∃ p4 p5 p6 p7 p8 p9 p10, ρ = [some (scriptD ns), some (.int i), o2, some (.ref M.length), p4, p5, p6, p7, p8, p9, p10] ∧ Bag M2 M.length b (200 * t)
    obtain ⟨ρ2, M2, j1, j2⟩ := sFor_at (gg := gN 4) (b := l2_law) J (rangeD 0 10) (rangeD 0 10) 0 [some (scriptD ns), some (.int i), o2, some (.ref M.length), o4, o5, o6, o7, o8, o9, o10] M1 rfl ⟨_, _, _, _, _, _, _, rfl, B⟩ (by
      rintro y t ρ M3 hy ⟨p4, p5, p6, p7, p8, p9, p10, rfl, B3⟩
      obtain ⟨ht, rfl⟩ := rangeD_at hy
      obtain ⟨q5, q6, q7, q8, q9, q10, M4, e, B4⟩ := turn_ok (S := some (scriptD ns)) (A := some (.int i)) (o2 := o2) (t := some (D.int t)) (o5 := p5) (o6 := p6) (o7 := p7) (o8 := p8) (o9 := p9) (o10 := p10) B3 (by omega)
      exact ⟨_, _, _, _, rfl, e, _, _, _, _, _, _, _, rfl, by have z : (200 * ((t + 1 : Nat) : Int)) = 200 * t + 200 := by omega
                                                              rw [z]; exact B4⟩)
    obtain ⟨p4, p5, p6, p7, p8, p9, p10, rfl, _⟩ := j2
    refine ⟨[some (scriptD ns), some (.int i), o2, o3, o4, o5, o6, o7, o8, o9, o10], M, [some (scriptD ns), some (.int i), o2, some (.ref M.length), p4, p5, p6, p7, p8, p9, p10], M2, rfl, ?_, _, _, _, _, _, _, _, _, _, _, rfl⟩
    · unfold l3_law
      refine go_step (asg_ok (d := .ref M.length) (M1 := M1) (call2 rfl rfl g1)) ?_
      exact for_ok (l := rangeD 0 10) rfl j1)
  obtain ⟨o1, o2, o3, o4, o5, o6, o7, o8, o9, o10, rfl⟩ := h2
  refine ⟨M', ?_⟩
  unfold m_law
  refine run_go (ρ1 := [some (scriptD ns), o1, some endD, o3, o4, o5, o6, o7, o8, o9, o10]) ?_
  unfold b_law
  refine go_step (for_ok hr h1) (go_step (asg_ok (d := endD) (M1 := M') (lst_ok (xs := [.bl true, .bl false, .bl false]) (aC_ok (M1 := M') (call1d (x := l1D) rfl (l1_is M')) (aC_ok (M1 := M') (call1d (x := l2D) rfl (l2_is M')) (aC_ok (M1 := M') (call1d (x := l3D) rfl (l3_is M')) rfl))) (by show 3 ≤ sizeLine; decide))) (ret_ok ?_))
  refine eq_of (M := M') (x := .str "[True, False, False]") (y := .str "[True, False, False]") ?_ rfl (eqs (decide_eq_true rfl))
  have := end_repr M'
  simp [eL, aC, aN, eV, R.bind, this]
end LW
set_option Elab.async false
set_option linter.all false
set_option maxRecDepth 100000
set_option maxHeartbeats 4000000
namespace LW
open PySem PySem.Spec PyProof.Rows L2 Br
def top (i : Nat) : Stmt := PySem.Challenge.pw_callayers_k01_layers_known.main.body.getD i (.Pass ⟨0, 0, 0, 0⟩)
abbrev s_is_whole : Stmt := top 1
abbrev s_is_number : Stmt := top 2
abbrev s_are_arguments : Stmt := top 8
abbrev s_are_kinds : Stmt := top 7
abbrev s_is_item : Stmt := top 9
abbrev s_is_layer : Stmt := top 10
abbrev s__law_take : Stmt := top 13
abbrev s__law_any : Stmt := top 16
abbrev s__law_bent : Stmt := top 17
abbrev s__law_whole : Stmt := top 18
abbrev s__law_among : Stmt := top 19
abbrev s__law_are_kinds : Stmt := top 20
abbrev s__law_is_layer : Stmt := top 21
abbrev s__law_some_kinds : Stmt := top 14
abbrev s__law_layer : Stmt := top 15
abbrev s__law_bag : Stmt := top 12
abbrev s_law : Stmt := top 22
structure Tx (w : World) (K : PySem.W.Frag) (mg : Str → Option Value) : Prop where
  nokl : NoKL K
  f_repr : mg "repr" = none
  f_zip : mg "zip" = none
  f_int : mg "int" = none
  f_isinstance : mg "isinstance" = none
  f_bool : mg "bool" = none
  g_is_whole : mg "is_whole" = some (.ref (He.ga K "is_whole"))
  k_is_whole : PySem.W.keepIn K (.ref (He.ga K "is_whole")) = true
  i_MOST_COUNT : ∃ t, mg "MOST_COUNT" = some (.int 2 t)
  g_is_number : mg "is_number" = some (.ref (He.ga K "is_number"))
  k_is_number : PySem.W.keepIn K (.ref (He.ga K "is_number")) = true
  i_MOST_VALUE : ∃ t, mg "MOST_VALUE" = some (.int 9 t)
  f_tuple : mg "tuple" = none
  f_len : mg "len" = none
  f_all : mg "all" = none
  g_are_arguments : mg "are_arguments" = some (.ref (He.ga K "are_arguments"))
  k_are_arguments : PySem.W.keepIn K (.ref (He.ga K "are_arguments")) = true
  g_are_kinds : mg "are_kinds" = some (.ref (He.ga K "are_kinds"))
  k_are_kinds : PySem.W.keepIn K (.ref (He.ga K "are_kinds")) = true
  g_is_item : mg "is_item" = some (.ref (He.ga K "is_item"))
  k_is_item : PySem.W.keepIn K (.ref (He.ga K "is_item")) = true
  g_FORMS : mg "FORMS" = some (.ref (He.ga K "FORMS"))
  ks_FORMS : KS K w "FORMS" kv_FORMS
  f_str : mg "str" = none
  g_is_layer : mg "is_layer" = some (.ref (He.ga K "is_layer"))
  k_is_layer : PySem.W.keepIn K (.ref (He.ga K "is_layer")) = true
  f_min : mg "min" = none
  f_max : mg "max" = none
  f_range : mg "range" = none
  g__law_take : mg "_law_take" = some (.ref (He.ga K "_law_take"))
  k__law_take : PySem.W.keepIn K (.ref (He.ga K "_law_take")) = true
  g__law_any : mg "_law_any" = some (.ref (He.ga K "_law_any"))
  k__law_any : PySem.W.keepIn K (.ref (He.ga K "_law_any")) = true
  f_list : mg "list" = none
  g__law_bent : mg "_law_bent" = some (.ref (He.ga K "_law_bent"))
  k__law_bent : PySem.W.keepIn K (.ref (He.ga K "_law_bent")) = true
  g__law_whole : mg "_law_whole" = some (.ref (He.ga K "_law_whole"))
  k__law_whole : PySem.W.keepIn K (.ref (He.ga K "_law_whole")) = true
  g__law_among : mg "_law_among" = some (.ref (He.ga K "_law_among"))
  k__law_among : PySem.W.keepIn K (.ref (He.ga K "_law_among")) = true
  g__law_are_kinds : mg "_law_are_kinds" = some (.ref (He.ga K "_law_are_kinds"))
  k__law_are_kinds : PySem.W.keepIn K (.ref (He.ga K "_law_are_kinds")) = true
  g__law_is_layer : mg "_law_is_layer" = some (.ref (He.ga K "_law_is_layer"))
  k__law_is_layer : PySem.W.keepIn K (.ref (He.ga K "_law_is_layer")) = true
  g__law_some_kinds : mg "_law_some_kinds" = some (.ref (He.ga K "_law_some_kinds"))
  k__law_some_kinds : PySem.W.keepIn K (.ref (He.ga K "_law_some_kinds")) = true
  g__law_layer : mg "_law_layer" = some (.ref (He.ga K "_law_layer"))
  k__law_layer : PySem.W.keepIn K (.ref (He.ga K "_law_layer")) = true
  f_abs : mg "abs" = none
  g__law_bag : mg "_law_bag" = some (.ref (He.ga K "_law_bag"))
  k__law_bag : PySem.W.keepIn K (.ref (He.ga K "_law_bag")) = true
section
variable {P : Program} {w : World} {K : PySem.W.Frag} {mg : Str → Option Value} {base : Heap}
theorem ab_law_1 {fd : FuncData} (F : FunD K "law" "law" (defArgs s_law) (defBody s_law) (defScope s_law) [] [] (He.ga K "law") fd) : AB P w K mg base fd [("_law_script" : Str)] 1 [] (fun ds _ => ds) := by
  exact AB.of_all (FunD.bindsN F fun _ _ _ _ _ _ us hl => match us, hl with | [_], _ => rfl) rfl
theorem ab_is_whole_1 {fd : FuncData} (F : FunD K "is_whole" "is_whole" (defArgs s_is_whole) (defBody s_is_whole) (defScope s_is_whole) [] [] (He.ga K "is_whole") fd) : AB P w K mg base fd [("thing" : Str)] 1 [] (fun ds _ => ds) := by
  exact AB.of_all (FunD.bindsN F fun _ _ _ _ _ _ us hl => match us, hl with | [_], _ => rfl) rfl
theorem ab_is_number_2 {fd : FuncData} (F : FunD K "is_number" "is_number" (defArgs s_is_number) (defBody s_is_number) (defScope s_is_number) [] [] (He.ga K "is_number") fd) : AB P w K mg base fd [("thing" : Str), ("count" : Str)] 2 [] (fun ds _ => ds) := by
  exact AB.of_all (FunD.bindsN F fun _ _ _ _ _ _ us hl => match us, hl with | [_, _], _ => rfl) rfl
theorem ab_are_arguments_2 {fd : FuncData} (F : FunD K "are_arguments" "are_arguments" (defArgs s_are_arguments) (defBody s_are_arguments) (defScope s_are_arguments) [] [] (He.ga K "are_arguments") fd) : AB P w K mg base fd [("thing" : Str), ("arguments" : Str)] 2 [] (fun ds _ => ds) := by
  exact AB.of_all (FunD.bindsN F fun _ _ _ _ _ _ us hl => match us, hl with | [_, _], _ => rfl) rfl
theorem ab_are_kinds_2 {fd : FuncData} (F : FunD K "are_kinds" "are_kinds" (defArgs s_are_kinds) (defBody s_are_kinds) (defScope s_are_kinds) [] [] (He.ga K "are_kinds") fd) : AB P w K mg base fd [("thing" : Str), ("kinds" : Str)] 2 [] (fun ds _ => ds) := by
  exact AB.of_all (FunD.bindsN F fun _ _ _ _ _ _ us hl => match us, hl with | [_, _], _ => rfl) rfl
theorem ab_is_item_4 {fd : FuncData} (F : FunD K "is_item" "is_item" (defArgs s_is_item) (defBody s_is_item) (defScope s_is_item) [] [] (He.ga K "is_item") fd) : AB P w K mg base fd [("letter" : Str), ("thing" : Str), ("arguments" : Str), ("kinds" : Str)] 4 [] (fun ds _ => ds) := by
  exact AB.of_all (FunD.bindsN F fun _ _ _ _ _ _ us hl => match us, hl with | [_, _, _, _], _ => rfl) rfl
theorem ab_is_layer_1 {fd : FuncData} (F : FunD K "is_layer" "is_layer" (defArgs s_is_layer) (defBody s_is_layer) (defScope s_is_layer) [] [(("arguments" : Str), V.int 2), (("kinds" : Str), V.int 2)] (He.ga K "is_layer") fd) : AB P w K mg base fd [("thing" : Str), ("arguments" : Str), ("kinds" : Str)] 1 [] (fun ds _ => ds ++ [D.int 2, D.int 2]) := by
  obtain ⟨ds, hv, hb⟩ := FunD.binds0 (ps := [("thing" : Str), ("arguments" : Str), ("kinds" : Str)]) F 1 (by simp) rfl fun D doc pm an cdv ct us ks hu hk => match us, ks, hu, hk with | [_], [_, _], _, _ => ⟨_, _, _, _, _, _, rfl, rfl, _, _, _, _, _, _, rfl, rfl, rfl⟩
  exact AB.of_binds hb hv (Dfl.int (Dfl.int Dfl.nil)) rfl
theorem ab__law_take_2 {fd : FuncData} (F : FunD K "_law_take" "_law_take" (defArgs s__law_take) (defBody s__law_take) (defScope s__law_take) [] [] (He.ga K "_law_take") fd) : AB P w K mg base fd [("_law_bag_here" : Str), ("_law_many" : Str)] 2 [] (fun ds _ => ds) := by
  exact AB.of_all (FunD.bindsN F fun _ _ _ _ _ _ us hl => match us, hl with | [_, _], _ => rfl) rfl
theorem ab__law_any_1 {fd : FuncData} (F : FunD K "_law_any" "_law_any" (defArgs s__law_any) (defBody s__law_any) (defScope s__law_any) [] [] (He.ga K "_law_any") fd) : AB P w K mg base fd [("_law_bag_here" : Str)] 1 [] (fun ds _ => ds) := by
  exact AB.of_all (FunD.bindsN F fun _ _ _ _ _ _ us hl => match us, hl with | [_], _ => rfl) rfl
theorem ab__law_bent_2 {fd : FuncData} (F : FunD K "_law_bent" "_law_bent" (defArgs s__law_bent) (defBody s__law_bent) (defScope s__law_bent) [] [] (He.ga K "_law_bent") fd) : AB P w K mg base fd [("_law_bag_here" : Str), ("_law_thing" : Str)] 2 [] (fun ds _ => ds) := by
  exact AB.of_all (FunD.bindsN F fun _ _ _ _ _ _ us hl => match us, hl with | [_, _], _ => rfl) rfl
theorem ab__law_whole_1 {fd : FuncData} (F : FunD K "_law_whole" "_law_whole" (defArgs s__law_whole) (defBody s__law_whole) (defScope s__law_whole) [] [] (He.ga K "_law_whole") fd) : AB P w K mg base fd [("_law_thing" : Str)] 1 [] (fun ds _ => ds) := by
  exact AB.of_all (FunD.bindsN F fun _ _ _ _ _ _ us hl => match us, hl with | [_], _ => rfl) rfl
theorem ab__law_among_3 {fd : FuncData} (F : FunD K "_law_among" "_law_among" (defArgs s__law_among) (defBody s__law_among) (defScope s__law_among) [] [] (He.ga K "_law_among") fd) : AB P w K mg base fd [("_law_thing" : Str), ("_law_low" : Str), ("_law_high" : Str)] 3 [] (fun ds _ => ds) := by
  exact AB.of_all (FunD.bindsN F fun _ _ _ _ _ _ us hl => match us, hl with | [_, _, _], _ => rfl) rfl
theorem ab__law_are_kinds_2 {fd : FuncData} (F : FunD K "_law_are_kinds" "_law_are_kinds" (defArgs s__law_are_kinds) (defBody s__law_are_kinds) (defScope s__law_are_kinds) [] [] (He.ga K "_law_are_kinds") fd) : AB P w K mg base fd [("_law_thing" : Str), ("_law_many" : Str)] 2 [] (fun ds _ => ds) := by
  exact AB.of_all (FunD.bindsN F fun _ _ _ _ _ _ us hl => match us, hl with | [_, _], _ => rfl) rfl
theorem ab__law_is_layer_3 {fd : FuncData} (F : FunD K "_law_is_layer" "_law_is_layer" (defArgs s__law_is_layer) (defBody s__law_is_layer) (defScope s__law_is_layer) [] [] (He.ga K "_law_is_layer") fd) : AB P w K mg base fd [("_law_thing" : Str), ("_law_count" : Str), ("_law_many" : Str)] 3 [] (fun ds _ => ds) := by
  exact AB.of_all (FunD.bindsN F fun _ _ _ _ _ _ us hl => match us, hl with | [_, _, _], _ => rfl) rfl
theorem ab_is_layer_1_arguments_kinds {fd : FuncData} (F : FunD K "is_layer" "is_layer" (defArgs s_is_layer) (defBody s_is_layer) (defScope s_is_layer) [] [(("arguments" : Str), V.int 2), (("kinds" : Str), V.int 2)] (He.ga K "is_layer") fd) : AB P w K mg base fd [("thing" : Str), ("arguments" : Str), ("kinds" : Str)] 1 [("arguments" : Str), ("kinds" : Str)] (fun ds es => pk ds 0 ++ (pk es 0 ++ (pk es 1 ++ ([])))) := by
  obtain ⟨mv, hb⟩ := FunD.kbinds0 (ps := [("thing" : Str), ("arguments" : Str), ("kinds" : Str)]) F 1 [("arguments" : Str), ("kinds" : Str)] [] (fun {α} (us mv ws : List α) => pk us 0 ++ (pk ws 0 ++ (pk ws 1 ++ ([])))) (by simp) (by simp)
    (fun {vs mz zs us mv ws} r1 r2 r3 => ((vals_pk r1 0).append ((vals_pk r3 0).append ((vals_pk r3 1).append .nil))))
    fun D doc pm an cdv ct us mv ws hu hm hw => match us, mv, ws, hu, hm, hw with | [_], [], [_, _], _, _, _ => (by show bindArgs _ _ = pure _; rfl)
  exact AB.of_kbn hb (fun vs zs h1 h2 => match vs, zs, h1, h2 with | [_], [_, _], _, _ => rfl) (fun μ N H ds vs es zs q1 q2 h1 h2 => (DVs.append (dvs_pk q1 0) (DVs.append (dvs_pk q2 0) (DVs.append (dvs_pk q2 1) DVs.nil))))
theorem ab__law_some_kinds_2 {fd : FuncData} (F : FunD K "_law_some_kinds" "_law_some_kinds" (defArgs s__law_some_kinds) (defBody s__law_some_kinds) (defScope s__law_some_kinds) [] [] (He.ga K "_law_some_kinds") fd) : AB P w K mg base fd [("_law_bag_here" : Str), ("_law_many" : Str)] 2 [] (fun ds _ => ds) := by
  exact AB.of_all (FunD.bindsN F fun _ _ _ _ _ _ us hl => match us, hl with | [_, _], _ => rfl) rfl
theorem ab__law_layer_3 {fd : FuncData} (F : FunD K "_law_layer" "_law_layer" (defArgs s__law_layer) (defBody s__law_layer) (defScope s__law_layer) [] [] (He.ga K "_law_layer") fd) : AB P w K mg base fd [("_law_bag_here" : Str), ("_law_count" : Str), ("_law_many" : Str)] 3 [] (fun ds _ => ds) := by
  exact AB.of_all (FunD.bindsN F fun _ _ _ _ _ _ us hl => match us, hl with | [_, _, _], _ => rfl) rfl
theorem ab__law_bag_2 {fd : FuncData} (F : FunD K "_law_bag" "_law_bag" (defArgs s__law_bag) (defBody s__law_bag) (defScope s__law_bag) [] [] (He.ga K "_law_bag") fd) : AB P w K mg base fd [("_law_script" : Str), ("_law_at" : Str)] 2 [] (fun ds _ => ds) := by
  exact AB.of_all (FunD.bindsN F fun _ _ _ _ _ _ us hl => match us, hl with | [_, _], _ => rfl) rfl
theorem sc_is_whole : FnScope [("thing" : Str)] [("thing" : Str)] (defScope s_is_whole) := ⟨rfl, rfl, rfl, by decide +kernel, rfl, by decide +kernel, by decide +kernel⟩
theorem ok_is_whole {fd : FuncData} (T : Tx w K mg) (F : FunD K "is_whole" "is_whole" (defArgs s_is_whole) (defBody s_is_whole) (defScope s_is_whole) [] [] (He.ga K "is_whole") fd) : FnM P w K mg base 1 (He.ga K "is_whole") fd [("thing" : Str)] m_is_whole := by
  refine fnM_of F sc_is_whole fun cdv A outer s H E hr hg => ?_
  have hgd : (A.deeper (envOfC "is_whole" (defScope s_is_whole) s.heap.objs.size (He.ga K "is_whole") cdv)).guards = some [] := hg
  have tk := takes_of (X := cxOf (L2.CX P w) P w K mg base [("thing" : Str)] "is_whole" (defScope s_is_whole) (He.ga K "is_whole") cdv A outer s H E) rfl rfl rfl rfl
  exact (mss_one (ms_ret (me_and (me_cb cm_isi (by rfl) T.f_isinstance (by decide +kernel) (ma_cons (me_v 0) (ma_cons (me_ty rfl T.f_int (by decide +kernel)) ma_nil))) (me_and1 (me_not (me_cb cm_isi (by rfl) T.f_isinstance (by decide +kernel) (ma_cons (me_v 0) (ma_cons (me_ty rfl T.f_bool (by decide +kernel)) ma_nil))))))))
theorem sc_is_number : FnScope [("thing" : Str), ("count" : Str)] [("thing" : Str), ("count" : Str)] (defScope s_is_number) := ⟨rfl, rfl, rfl, by decide +kernel, rfl, by decide +kernel, by decide +kernel⟩
theorem ok_is_number {fd : FuncData} (T : Tx w K mg) (F : FunD K "is_number" "is_number" (defArgs s_is_number) (defBody s_is_number) (defScope s_is_number) [] [] (He.ga K "is_number") fd) {fd_is_whole : FuncData} (F_is_whole : FnM P w K mg base 1 (He.ga K "is_whole") fd_is_whole [("thing" : Str)] m_is_whole) (E_ab_is_whole_1 : AB P w K mg base fd_is_whole [("thing" : Str)] 1 [] (fun ds _ => ds)) : FnM P w K mg base 2 (He.ga K "is_number") fd [("thing" : Str), ("count" : Str)] m_is_number := by
  refine fnM_of F sc_is_number fun cdv A outer s H E hr hg => ?_
  have hgd : (A.deeper (envOfC "is_number" (defScope s_is_number) s.heap.objs.size (He.ga K "is_number") cdv)).guards = some [] := hg
  have tk := takes_of (X := cxOf (L2.CX P w) P w K mg base [("thing" : Str), ("count" : Str)] "is_number" (defScope s_is_number) (He.ga K "is_number") cdv A outer s H E) rfl rfl rfl rfl
  exact (mss_one (ms_ret (me_and (me_call F_is_whole E_ab_is_whole_1 (hr.mono (by decide)) hgd tk rfl T.g_is_whole T.k_is_whole (ma_cons (me_v 0) ma_nil)) (me_and1 (me_ch om_le om_lt me_int (me_v 0) (me_v 1))))))
theorem sc_are_arguments : FnScope [("thing" : Str), ("arguments" : Str), ("one" : Str)] [("thing" : Str), ("arguments" : Str)] (defScope s_are_arguments) := ⟨rfl, rfl, rfl, by decide +kernel, rfl, by decide +kernel, by decide +kernel⟩
theorem ok_are_arguments {fd : FuncData} (T : Tx w K mg) (F : FunD K "are_arguments" "are_arguments" (defArgs s_are_arguments) (defBody s_are_arguments) (defScope s_are_arguments) [] [] (He.ga K "are_arguments") fd) {fd_is_number : FuncData} (F_is_number : FnM P w K mg base 2 (He.ga K "is_number") fd_is_number [("thing" : Str), ("count" : Str)] m_is_number) (E_ab_is_number_2 : AB P w K mg base fd_is_number [("thing" : Str), ("count" : Str)] 2 [] (fun ds _ => ds)) : FnM P w K mg base 3 (He.ga K "are_arguments") fd [("thing" : Str), ("arguments" : Str)] m_are_arguments := by
  refine fnM_of F sc_are_arguments fun cdv A outer s H E hr hg => ?_
  have hgd : (A.deeper (envOfC "are_arguments" (defScope s_are_arguments) s.heap.objs.size (He.ga K "are_arguments") cdv)).guards = some [] := hg
  have tk := takes_of (X := cxOf (L2.CX P w) P w K mg base [("thing" : Str), ("arguments" : Str), ("one" : Str)] "are_arguments" (defScope s_are_arguments) (He.ga K "are_arguments") cdv A outer s H E) rfl rfl rfl rfl
  exact (mss_one (ms_ret (me_and (me_cb cm_isi (by rfl) T.f_isinstance (by decide +kernel) (ma_cons (me_v 0) (ma_cons (me_ty rfl T.f_tuple (by decide +kernel)) ma_nil))) (me_and (me_cmp (om_eq (hu64 hr)) (me_cb cm_len (by rfl) T.f_len (by decide +kernel) (ma_cons (me_v 0) ma_nil)) (me_v 1) (nomark _)) (me_and1 (me_cb (cm_all rfl) (by rfl) T.f_all (by decide +kernel) (ma_cons (me_lcV (own := [(("one" : Str), 2)]) (g := gName 2) rfl sc_are_arguments.nd (blkOk_by (N := [("thing" : Str), ("arguments" : Str), ("one" : Str)]) (sc := defScope s_are_arguments) (by decide +kernel)) (own_n (by decide)) (mi_it (me_v 0)) (fun _ _ _ _ _ => pg_name (i := 2) sc_are_arguments.nd rfl (Or.inl rfl)) (fun _ _ _ _ _ => mts_nil) (fun _ _ _ _ _ => (me_call F_is_number E_ab_is_number_2 (hr.mono (by decide)) hgd takes0 rfl T.g_is_number T.k_is_number (ma_cons (me_v 2) (ma_cons (me_v 1) ma_nil))))) ma_nil)))))))
theorem sc_are_kinds : FnScope [("thing" : Str), ("kinds" : Str), ("kind" : Str)] [("thing" : Str), ("kinds" : Str)] (defScope s_are_kinds) := ⟨rfl, rfl, rfl, by decide +kernel, rfl, by decide +kernel, by decide +kernel⟩
theorem ok_are_kinds {fd : FuncData} (T : Tx w K mg) (F : FunD K "are_kinds" "are_kinds" (defArgs s_are_kinds) (defBody s_are_kinds) (defScope s_are_kinds) [] [] (He.ga K "are_kinds") fd) {fd_is_number : FuncData} (F_is_number : FnM P w K mg base 2 (He.ga K "is_number") fd_is_number [("thing" : Str), ("count" : Str)] m_is_number) (E_ab_is_number_2 : AB P w K mg base fd_is_number [("thing" : Str), ("count" : Str)] 2 [] (fun ds _ => ds)) : FnM P w K mg base 3 (He.ga K "are_kinds") fd [("thing" : Str), ("kinds" : Str)] m_are_kinds := by
  refine fnM_of F sc_are_kinds fun cdv A outer s H E hr hg => ?_
  have hgd : (A.deeper (envOfC "are_kinds" (defScope s_are_kinds) s.heap.objs.size (He.ga K "are_kinds") cdv)).guards = some [] := hg
  have tk := takes_of (X := cxOf (L2.CX P w) P w K mg base [("thing" : Str), ("kinds" : Str), ("kind" : Str)] "are_kinds" (defScope s_are_kinds) (He.ga K "are_kinds") cdv A outer s H E) rfl rfl rfl rfl
  exact (mss_cons (ms_if (mt_w (mw_or (mt_not (mt_tru (me_cb cm_isi (by rfl) T.f_isinstance (by decide +kernel) (ma_cons (me_v 0) (ma_cons (me_ty rfl T.f_tuple (by decide +kernel)) ma_nil))))) (mw_or1 (mt_not (mt_tru (me_cb (cm_all rfl) (by rfl) T.f_all (by decide +kernel) (ma_cons (me_lcV (own := [(("kind" : Str), 2)]) (g := gName 2) rfl sc_are_kinds.nd (blkOk_by (N := [("thing" : Str), ("kinds" : Str), ("kind" : Str)]) (sc := defScope s_are_kinds) (by decide +kernel)) (own_n (by decide)) (mi_it (me_v 0)) (fun _ _ _ _ _ => pg_name (i := 2) sc_are_kinds.nd rfl (Or.inl rfl)) (fun _ _ _ _ _ => mts_nil) (fun _ _ _ _ _ => (me_call F_is_number E_ab_is_number_2 (hr.mono (by decide)) hgd takes0 rfl T.g_is_number T.k_is_number (ma_cons (me_v 2) (ma_cons (me_v 1) ma_nil))))) ma_nil))))))) (mss_one (ms_ret me_bl)) mss_nil)
    (mss_one (ms_ret (me_and (me_ch om_le om_le me_int (me_cb cm_len (by rfl) T.f_len (by decide +kernel) (ma_cons (me_v 0) ma_nil)) (me_v 1)) (me_and1 (me_or (me_cmp (om_eq (hu64 hr)) (me_cb cm_len (by rfl) T.f_len (by decide +kernel) (ma_cons (me_v 0) ma_nil)) me_int (nomark _)) (me_and1 (me_cmp om_lt (me_ix ixm (me_v 0) me_int (fun _ _ => rfl)) (me_ix ixm (me_v 0) me_int (fun _ _ => rfl)) (nomark _)))))))))
theorem sc_is_item : FnScope [("letter" : Str), ("thing" : Str), ("arguments" : Str), ("kinds" : Str)] [("letter" : Str), ("thing" : Str), ("arguments" : Str), ("kinds" : Str)] (defScope s_is_item) := ⟨rfl, rfl, rfl, by decide +kernel, rfl, by decide +kernel, by decide +kernel⟩
theorem ok_is_item {fd : FuncData} (T : Tx w K mg) (F : FunD K "is_item" "is_item" (defArgs s_is_item) (defBody s_is_item) (defScope s_is_item) [] [] (He.ga K "is_item") fd) {fd_is_whole : FuncData} (F_is_whole : FnM P w K mg base 1 (He.ga K "is_whole") fd_is_whole [("thing" : Str)] m_is_whole) (E_ab_is_whole_1 : AB P w K mg base fd_is_whole [("thing" : Str)] 1 [] (fun ds _ => ds)) {fd_is_number : FuncData} (F_is_number : FnM P w K mg base 2 (He.ga K "is_number") fd_is_number [("thing" : Str), ("count" : Str)] m_is_number) (E_ab_is_number_2 : AB P w K mg base fd_is_number [("thing" : Str), ("count" : Str)] 2 [] (fun ds _ => ds)) {fd_are_arguments : FuncData} (F_are_arguments : FnM P w K mg base 3 (He.ga K "are_arguments") fd_are_arguments [("thing" : Str), ("arguments" : Str)] m_are_arguments) (E_ab_are_arguments_2 : AB P w K mg base fd_are_arguments [("thing" : Str), ("arguments" : Str)] 2 [] (fun ds _ => ds)) {fd_are_kinds : FuncData} (F_are_kinds : FnM P w K mg base 3 (He.ga K "are_kinds") fd_are_kinds [("thing" : Str), ("kinds" : Str)] m_are_kinds) (E_ab_are_kinds_2 : AB P w K mg base fd_are_kinds [("thing" : Str), ("kinds" : Str)] 2 [] (fun ds _ => ds)) : FnM P w K mg base 4 (He.ga K "is_item") fd [("letter" : Str), ("thing" : Str), ("arguments" : Str), ("kinds" : Str)] m_is_item := by
  refine fnM_of F sc_is_item fun cdv A outer s H E hr hg => ?_
  have hgd : (A.deeper (envOfC "is_item" (defScope s_is_item) s.heap.objs.size (He.ga K "is_item") cdv)).guards = some [] := hg
  have tk := takes_of (X := cxOf (L2.CX P w) P w K mg base [("letter" : Str), ("thing" : Str), ("arguments" : Str), ("kinds" : Str)] "is_item" (defScope s_is_item) (He.ga K "is_item") cdv A outer s H E) rfl rfl rfl rfl
  exact (mss_one (ms_match (me_v 0) (mc_val (hu64 hr) me_str (mss_one (ms_ret (me_call F_are_kinds E_ab_are_kinds_2 (hr.mono (by decide)) hgd tk rfl T.g_are_kinds T.k_are_kinds (ma_cons (me_v 1) (ma_cons (me_v 3) ma_nil))))) (mc_val (hu64 hr) me_str (mss_one (ms_ret (me_call F_are_arguments E_ab_are_arguments_2 (hr.mono (by decide)) hgd tk rfl T.g_are_arguments T.k_are_arguments (ma_cons (me_v 1) (ma_cons (me_v 2) ma_nil))))) (mc_val (hu64 hr) me_str (mss_one (ms_ret (me_call F_is_number E_ab_is_number_2 (hr.mono (by decide)) hgd tk rfl T.g_is_number T.k_is_number (ma_cons (me_v 1) (ma_cons (me_v 3) ma_nil))))) (mc_val (hu64 hr) me_str (mss_one (ms_ret (me_call F_is_number E_ab_is_number_2 (hr.mono (by decide)) hgd tk rfl T.g_is_number T.k_is_number (ma_cons (me_v 1) (ma_cons (me_op om_add (me_gint rfl T.i_MOST_VALUE) me_int) ma_nil))))) (mc_val (hu64 hr) me_str (mss_one (ms_ret (me_call F_is_number E_ab_is_number_2 (hr.mono (by decide)) hgd tk rfl T.g_is_number T.k_is_number (ma_cons (me_v 1) (ma_cons (me_op om_add (me_gint rfl T.i_MOST_COUNT) me_int) ma_nil))))) (mc_any (mss_one (ms_ret (me_and (me_call F_is_whole E_ab_is_whole_1 (hr.mono (by decide)) hgd tk rfl T.g_is_whole T.k_is_whole (ma_cons (me_v 1) ma_nil)) (me_and1 (me_ch om_le om_le me_int (me_v 1) (me_gint rfl T.i_MOST_COUNT))))))))))))))
theorem sc_is_layer : FnScope [("thing" : Str), ("arguments" : Str), ("kinds" : Str), ("name" : Str), ("items" : Str), ("form" : Str), ("letter" : Str), ("item" : Str)] [("thing" : Str), ("arguments" : Str), ("kinds" : Str)] (defScope s_is_layer) := ⟨rfl, rfl, rfl, by decide +kernel, rfl, by decide +kernel, by decide +kernel⟩
theorem ok_is_layer {fd : FuncData} (T : Tx w K mg) (F : FunD K "is_layer" "is_layer" (defArgs s_is_layer) (defBody s_is_layer) (defScope s_is_layer) [] [(("arguments" : Str), V.int 2), (("kinds" : Str), V.int 2)] (He.ga K "is_layer") fd) {fd_is_item : FuncData} (F_is_item : FnM P w K mg base 4 (He.ga K "is_item") fd_is_item [("letter" : Str), ("thing" : Str), ("arguments" : Str), ("kinds" : Str)] m_is_item) (E_ab_is_item_4 : AB P w K mg base fd_is_item [("letter" : Str), ("thing" : Str), ("arguments" : Str), ("kinds" : Str)] 4 [] (fun ds _ => ds)) : FnM P w K mg base 5 (He.ga K "is_layer") fd [("thing" : Str), ("arguments" : Str), ("kinds" : Str)] m_is_layer := by
  refine fnM_of F sc_is_layer fun cdv A outer s H E hr hg => ?_
  have hgd : (A.deeper (envOfC "is_layer" (defScope s_is_layer) s.heap.objs.size (He.ga K "is_layer") cdv)).guards = some [] := hg
  have tk := takes_of (X := cxOf (L2.CX P w) P w K mg base [("thing" : Str), ("arguments" : Str), ("kinds" : Str), ("name" : Str), ("items" : Str), ("form" : Str), ("letter" : Str), ("item" : Str)] "is_layer" (defScope s_is_layer) (He.ga K "is_layer") cdv A outer s H E) rfl rfl rfl rfl
  exact (mss_cons (ms_if (mt_w (mw_or (mt_not (mt_tru (me_cb cm_isi (by rfl) T.f_isinstance (by decide +kernel) (ma_cons (me_v 0) (ma_cons (me_ty rfl T.f_tuple (by decide +kernel)) ma_nil))))) (mw_or (mt_cmp (om_eq (hu64 hr)) (me_v 0) (me_tup ma_nil) (nomark _)) (mw_or (mt_not (mt_tru (me_cb cm_isi (by rfl) T.f_isinstance (by decide +kernel) (ma_cons (me_ix ixm (me_v 0) me_int (fun _ _ => rfl)) (ma_cons (me_ty rfl T.f_str (by decide +kernel)) ma_nil))))) (mw_or1 (mt_cmp (om_notInK T.ks_FORMS) (me_ix ixm (me_v 0) me_int (fun _ _ => rfl)) (me_gl rfl T.g_FORMS) (by with_unfolding_all rfl))))))) (mss_one (ms_ret me_bl)) mss_nil)
    (mss_cons (ms_asgT' (me_v 0) (mg_star rfl (mgs_cons (mg_n 3 sc_is_layer.nd rfl (by first | exact Or.inl rfl | exact Or.inr rfl)) (mgs_cons (mg_n 4 sc_is_layer.nd rfl (by first | exact Or.inl rfl | exact Or.inr rfl)) mgs_nil))))
    (mss_cons (ms_set 5 sc_is_layer.nd rfl (by first | exact Or.inl rfl | exact Or.inr rfl) (me_ix (ixK T.ks_FORMS) (me_gl rfl T.g_FORMS) (me_v 3) (fun _ _ => rfl)))
    (mss_cons (ms_if (mt_cmp (om_ne (hu64 hr)) (me_cb cm_len (by rfl) T.f_len (by decide +kernel) (ma_cons (me_v 4) ma_nil)) (me_cb cm_len (by rfl) T.f_len (by decide +kernel) (ma_cons (me_v 5) ma_nil)) (nomark _)) (mss_one (ms_ret me_bl)) mss_nil)
    (mss_cons (ms_if (mt_not (mt_tru (me_cb (cm_all rfl) (by rfl) T.f_all (by decide +kernel) (ma_cons (me_lcV (own := [(("letter" : Str), 6), (("item" : Str), 7)]) (g := L2.gTup K 2 (gCons (gName 6) (gCons (gName 7) (gNil)))) rfl sc_is_layer.nd (blkOk_by (N := [("thing" : Str), ("arguments" : Str), ("kinds" : Str), ("name" : Str), ("items" : Str), ("form" : Str), ("letter" : Str), ("item" : Str)]) (sc := defScope s_is_layer) (by decide +kernel)) (own_tup (own_cons (own_n (by decide)) (own_cons (own_n (by decide)) own_nil))) (mi_zipS rfl T.f_zip (ma_cons (me_v 5) (ma_cons (me_v 4) ma_nil))) (fun _ _ _ _ _ => pg_tup rfl (pgs_cons (pg_name (i := 6) sc_is_layer.nd rfl (Or.inl rfl)) (pgs_cons (pg_name (i := 7) sc_is_layer.nd rfl (Or.inl rfl)) pgs_nil))) (fun _ _ _ _ _ => mts_nil) (fun _ _ _ _ _ => (me_call F_is_item E_ab_is_item_4 (hr.mono (by decide)) hgd takes0 rfl T.g_is_item T.k_is_item (ma_cons (me_v 6) (ma_cons (me_v 7) (ma_cons (me_v 1) (ma_cons (me_v 2) ma_nil))))))) ma_nil)))) (mss_one (ms_ret me_bl)) mss_nil)
    (mss_one (ms_ret (me_or (me_cmp (om_ne (hu64 hr)) (me_v 3) me_str (nomark _)) (me_and1 (me_cmp (om_ne (hu64 hr)) (me_ix ixm (me_v 4) me_int (fun _ _ => rfl)) (me_ix ixm (me_v 4) me_int (fun _ _ => rfl)) (nomark _)))))))))))
theorem sc__law_take : FnScope [("_law_bag_here" : Str), ("_law_many" : Str), ("_law_mixed" : Str), ("_law_digit" : Str)] [("_law_bag_here" : Str), ("_law_many" : Str)] (defScope s__law_take) := ⟨rfl, rfl, rfl, by decide +kernel, rfl, by decide +kernel, by decide +kernel⟩
theorem ok__law_take {fd : FuncData} (T : Tx w K mg) (F : FunD K "_law_take" "_law_take" (defArgs s__law_take) (defBody s__law_take) (defScope s__law_take) [] [] (He.ga K "_law_take") fd) : FnM P w K mg base 1 (He.ga K "_law_take") fd [("_law_bag_here" : Str), ("_law_many" : Str)] m__law_take := by
  refine fnM_of F sc__law_take fun cdv A outer s H E hr hg => ?_
  have hgd : (A.deeper (envOfC "_law_take" (defScope s__law_take) s.heap.objs.size (He.ga K "_law_take") cdv)).guards = some [] := hg
  have tk := takes_of (X := cxOf (L2.CX P w) P w K mg base [("_law_bag_here" : Str), ("_law_many" : Str), ("_law_mixed" : Str), ("_law_digit" : Str)] "_law_take" (defScope s__law_take) (He.ga K "_law_take") cdv A outer s H E) rfl rfl rfl rfl
  exact (mss_cons (ms_if (mt_cmp om_gt (me_ix ixm (me_v 0) me_int (fun _ _ => rfl)) me_int (nomark _)) (mss_cons (ms_set 3 sc__law_take.nd rfl (by first | exact Or.inl rfl | exact Or.inr rfl) (me_op om_mod (me_ix ixm (me_v 0) me_int (fun _ _ => rfl)) (me_v 1)))
    (mss_cons (ms_asgT' (me_op om_fdiv (me_ix ixm (me_v 0) me_int (fun _ _ => rfl)) (me_v 1)) (mg_sub (me_v 0) me_int))
    (mss_one (ms_ret (me_v 3))))) mss_nil)
    (mss_cons (ms_asgT' (me_op om_add (me_ix ixm (me_v 0) me_int (fun _ _ => rfl)) me_int) (mg_sub (me_v 0) me_int))
    (mss_cons (ms_set 2 sc__law_take.nd rfl (by first | exact Or.inl rfl | exact Or.inr rfl) (me_op om_mod (me_op om_pow (me_op om_add (me_ix ixm (me_v 0) me_int (fun _ _ => rfl)) (me_op om_mul' me_int (me_ix ixm (me_v 0) me_int (fun _ _ => rfl)))) me_int) me_int))
    (mss_cons (ms_set 2 sc__law_take.nd rfl (by first | exact Or.inl rfl | exact Or.inr rfl) (me_op om_mod (me_op om_pow (me_op om_add (me_v 2) (me_op om_mul' me_int (me_ix ixm (me_v 0) me_int (fun _ _ => rfl)))) me_int) me_int))
    (mss_one (ms_ret (me_op om_mod (me_op om_fdiv (me_v 2) me_int) (me_v 1))))))))
theorem sc__law_any : FnScope [("_law_bag_here" : Str), ("_law_some" : Str)] [("_law_bag_here" : Str)] (defScope s__law_any) := ⟨rfl, rfl, rfl, by decide +kernel, rfl, by decide +kernel, by decide +kernel⟩
theorem ok__law_any {fd : FuncData} (T : Tx w K mg) (F : FunD K "_law_any" "_law_any" (defArgs s__law_any) (defBody s__law_any) (defScope s__law_any) [] [] (He.ga K "_law_any") fd) {fd__law_take : FuncData} (F__law_take : FnM P w K mg base 1 (He.ga K "_law_take") fd__law_take [("_law_bag_here" : Str), ("_law_many" : Str)] m__law_take) (E_ab__law_take_2 : AB P w K mg base fd__law_take [("_law_bag_here" : Str), ("_law_many" : Str)] 2 [] (fun ds _ => ds)) : FnM P w K mg base 2 (He.ga K "_law_any") fd [("_law_bag_here" : Str)] m__law_any := by
  refine fnM_of F sc__law_any fun cdv A outer s H E hr hg => ?_
  have hgd : (A.deeper (envOfC "_law_any" (defScope s__law_any) s.heap.objs.size (He.ga K "_law_any") cdv)).guards = some [] := hg
  have tk := takes_of (X := cxOf (L2.CX P w) P w K mg base [("_law_bag_here" : Str), ("_law_some" : Str)] "_law_any" (defScope s__law_any) (He.ga K "_law_any") cdv A outer s H E) rfl rfl rfl rfl
  exact (mss_cons (ms_set 1 sc__law_any.nd rfl (by first | exact Or.inl rfl | exact Or.inr rfl) (me_lst (ma_cons me_non (ma_cons me_bl (ma_cons me_bl (ma_cons me_int (ma_cons me_int (ma_cons me_int (ma_cons me_int (ma_cons (me_un um_neg me_int) (ma_cons me_int (ma_cons me_int (ma_cons (me_op om_pow me_int me_int) (ma_cons me_str (ma_cons me_str (ma_cons me_str (ma_cons me_str (ma_cons me_str (ma_cons me_str (ma_cons (me_lst ma_nil) (ma_cons (me_tup ma_nil) ma_nil)))))))))))))))))))))
    (mss_cons (ms_set 1 sc__law_any.nd rfl (by first | exact Or.inl rfl | exact Or.inr rfl) (me_catN T.nokl (me_v 1) (me_lst (ma_cons (me_tup (ma_cons me_int ma_nil)) (ma_cons (me_tup (ma_cons me_int ma_nil)) (ma_cons (me_tup (ma_cons me_int (ma_cons me_int ma_nil))) (ma_cons (me_tup (ma_cons me_int (ma_cons me_int ma_nil))) (ma_cons (me_tup (ma_cons me_int (ma_cons me_int ma_nil))) (ma_cons (me_lst (ma_cons me_int ma_nil)) (ma_cons (me_tup (ma_cons me_bl ma_nil)) (ma_cons (me_tup (ma_cons me_str ma_nil)) (ma_cons (me_lst (ma_cons me_str ma_nil)) (ma_cons (me_tup (ma_cons me_str ma_nil)) ma_nil)))))))))))))
    (mss_cons (ms_expr (me_app (me_v 1) (ma_cons (me_tup (ma_cons me_str (ma_cons me_int (ma_cons (me_tup (ma_cons me_int ma_nil)) ma_nil)))) ma_nil)))
    (mss_one (ms_ret (me_ix ixm (me_v 1) (me_call F__law_take E_ab__law_take_2 (hr.mono (by decide)) hgd tk rfl T.g__law_take T.k__law_take (ma_cons (me_v 0) (ma_cons me_int ma_nil))) (fun _ _ => rfl)))))))
theorem sc__law_bent : FnScope [("_law_bag_here" : Str), ("_law_thing" : Str), ("_law_other" : Str), ("_law_way" : Str), ("_law_at" : Str), ("_law_some" : Str)] [("_law_bag_here" : Str), ("_law_thing" : Str)] (defScope s__law_bent) := ⟨rfl, rfl, rfl, by decide +kernel, rfl, by decide +kernel, by decide +kernel⟩
theorem ok__law_bent {fd : FuncData} (T : Tx w K mg) (F : FunD K "_law_bent" "_law_bent" (defArgs s__law_bent) (defBody s__law_bent) (defScope s__law_bent) [] [] (He.ga K "_law_bent") fd) {fd__law_take : FuncData} (F__law_take : FnM P w K mg base 1 (He.ga K "_law_take") fd__law_take [("_law_bag_here" : Str), ("_law_many" : Str)] m__law_take) (E_ab__law_take_2 : AB P w K mg base fd__law_take [("_law_bag_here" : Str), ("_law_many" : Str)] 2 [] (fun ds _ => ds)) {fd__law_any : FuncData} (F__law_any : FnM P w K mg base 2 (He.ga K "_law_any") fd__law_any [("_law_bag_here" : Str)] m__law_any) (E_ab__law_any_1 : AB P w K mg base fd__law_any [("_law_bag_here" : Str)] 1 [] (fun ds _ => ds)) (E_ab__law_bent_2 : AB P w K mg base fd [("_law_bag_here" : Str), ("_law_thing" : Str)] 2 [] (fun ds _ => ds)) : ∀ n : Nat, FnM P w K mg base (3 + n) (He.ga K "_law_bent") fd [("_law_bag_here" : Str), ("_law_thing" : Str)] (m__law_bent n) := by
  intro n
  induction n with
  | zero => exact FnM.none (k := 2) F sc__law_bent
  | succ n ih =>
  have F__law_bent := ih
  refine fnM_of (k := 3 + n) F sc__law_bent fun cdv A outer s H E hr hg => ?_
  have hgd : (A.deeper (envOfC "_law_bent" (defScope s__law_bent) s.heap.objs.size (He.ga K "_law_bent") cdv)).guards = some [] := hg
  have tk := takes_of (X := cxOf (L2.CX P w) P w K mg base [("_law_bag_here" : Str), ("_law_thing" : Str), ("_law_other" : Str), ("_law_way" : Str), ("_law_at" : Str), ("_law_some" : Str)] "_law_bent" (defScope s__law_bent) (He.ga K "_law_bent") cdv A outer s H E) rfl rfl rfl rfl
  exact (mss_cons (ms_if (mt_w (mw_and (mt_tru (me_cb cm_isi (by rfl) T.f_isinstance (by decide +kernel) (ma_cons (me_v 1) (ma_cons (me_ty rfl T.f_tuple (by decide +kernel)) ma_nil)))) (mw_and (mt_cmp (om_ne (hu64 hr)) (me_v 1) (me_tup ma_nil) (nomark _)) (mw_and1 (mt_cmp om_gt (me_call F__law_take E_ab__law_take_2 (hr.mono (by omega)) hgd tk rfl T.g__law_take T.k__law_take (ma_cons (me_v 0) (ma_cons me_int ma_nil))) me_int (nomark _)))))) (mss_cons (ms_set 4 sc__law_bent.nd rfl (by first | exact Or.inl rfl | exact Or.inr rfl) (me_call F__law_take E_ab__law_take_2 (hr.mono (by omega)) hgd tk rfl T.g__law_take T.k__law_take (ma_cons (me_v 0) (ma_cons (me_cb cm_len (by rfl) T.f_len (by decide +kernel) (ma_cons (me_v 1) ma_nil)) ma_nil))))
    (mss_one (ms_ret (me_op om_add (me_op om_add (me_sl (me_v 1) mo_none (mo_some (me_v 4))) (me_tup (ma_cons (me_call F__law_bent E_ab__law_bent_2 (hr.mono (by omega)) hgd tk rfl T.g__law_bent T.k__law_bent (ma_cons (me_v 0) (ma_cons (me_ix ixm (me_v 1) (me_v 4) (fun _ _ => rfl)) ma_nil))) ma_nil))) (me_sl (me_v 1) (mo_some (me_op om_add (me_v 4) me_int)) mo_none))))) mss_nil)
    (mss_cons (ms_par rfl sc__law_bent.nd rfl rfl (by decide) rfl rfl (ma_cons (me_call F__law_any E_ab__law_any_1 (hr.mono (by omega)) hgd tk rfl T.g__law_any T.k__law_any (ma_cons (me_v 0) ma_nil)) (ma_cons (me_call F__law_take E_ab__law_take_2 (hr.mono (by omega)) hgd tk rfl T.g__law_take T.k__law_take (ma_cons (me_v 0) (ma_cons me_int ma_nil))) ma_nil)) (by rfl))
    (mss_cons (ms_if (mt_w (mw_and (mt_tru (me_cb cm_isi (by rfl) T.f_isinstance (by decide +kernel) (ma_cons (me_v 1) (ma_cons (me_ty rfl T.f_tuple (by decide +kernel)) ma_nil)))) (mw_and1 (mt_cmp om_lt (me_v 3) me_int (nomark _))))) (mss_cons (ms_set 4 sc__law_bent.nd rfl (by first | exact Or.inl rfl | exact Or.inr rfl) (me_call F__law_take E_ab__law_take_2 (hr.mono (by omega)) hgd tk rfl T.g__law_take T.k__law_take (ma_cons (me_v 0) (ma_cons (me_op om_add (me_cb cm_len (by rfl) T.f_len (by decide +kernel) (ma_cons (me_v 1) ma_nil)) me_int) ma_nil))))
    (mss_cons (ms_set 5 sc__law_bent.nd rfl (by first | exact Or.inl rfl | exact Or.inr rfl) (me_lst (ma_cons (me_listV rfl T.f_list (ma_cons (me_v 1) ma_nil)) (ma_cons (me_op om_add (me_sl (me_v 1) mo_none (mo_some (me_v 4))) (me_sl (me_v 1) (mo_some (me_op om_add (me_v 4) me_int)) mo_none)) (ma_cons (me_op om_add (me_op om_add (me_sl (me_v 1) mo_none (mo_some (me_v 4))) (me_tup (ma_cons (me_v 2) ma_nil))) (me_sl (me_v 1) (mo_some (me_v 4)) mo_none)) (ma_cons (me_rev (me_v 1)) ma_nil))))))
    (mss_one (ms_ret (me_ix ixm (me_catV T.nokl (me_v 5) (me_lst (ma_cons (me_op om_add (me_sl (me_v 1) mo_none (mo_some (me_op om_add (me_v 4) me_int))) (me_sl (me_v 1) (mo_some (me_v 4)) mo_none)) ma_nil))) (me_v 3) (fun _ _ => rfl)))))) mss_nil)
    (mss_cons (ms_if (mt_w (mw_and (mt_tru (me_cb cm_isi (by rfl) T.f_isinstance (by decide +kernel) (ma_cons (me_v 1) (ma_cons (me_ty rfl T.f_int (by decide +kernel)) ma_nil)))) (mw_and (mt_not (mt_tru (me_cb cm_isi (by rfl) T.f_isinstance (by decide +kernel) (ma_cons (me_v 1) (ma_cons (me_ty rfl T.f_bool (by decide +kernel)) ma_nil))))) (mw_and1 (mt_cmp om_lt (me_v 3) me_int (nomark _)))))) (mss_one (ms_ret (me_ix ixm (me_lst (ma_cons (me_op om_add (me_v 1) me_int) (ma_cons (me_op om_sub (me_v 1) me_int) (ma_cons (me_cmp (om_eq (hu64 hr)) (me_v 1) me_int (nomark _)) (ma_cons (me_op om_add (me_v 1) me_int) (ma_cons (me_ct cm_str (by rfl) T.f_str (by decide +kernel) (ma_cons (me_v 1) ma_nil)) ma_nil)))))) (me_v 3) (fun _ _ => rfl)))) mss_nil)
    (mss_one (ms_ret (me_v 2)))))))
theorem sc__law_whole : FnScope [("_law_thing" : Str)] [("_law_thing" : Str)] (defScope s__law_whole) := ⟨rfl, rfl, rfl, by decide +kernel, rfl, by decide +kernel, by decide +kernel⟩
theorem ok__law_whole {fd : FuncData} (T : Tx w K mg) (F : FunD K "_law_whole" "_law_whole" (defArgs s__law_whole) (defBody s__law_whole) (defScope s__law_whole) [] [] (He.ga K "_law_whole") fd) : FnM P w K mg base 1 (He.ga K "_law_whole") fd [("_law_thing" : Str)] m__law_whole := by
  refine fnM_of F sc__law_whole fun cdv A outer s H E hr hg => ?_
  have hgd : (A.deeper (envOfC "_law_whole" (defScope s__law_whole) s.heap.objs.size (He.ga K "_law_whole") cdv)).guards = some [] := hg
  have tk := takes_of (X := cxOf (L2.CX P w) P w K mg base [("_law_thing" : Str)] "_law_whole" (defScope s__law_whole) (He.ga K "_law_whole") cdv A outer s H E) rfl rfl rfl rfl
  exact (mss_one (ms_ret (me_and (me_cb cm_isi (by rfl) T.f_isinstance (by decide +kernel) (ma_cons (me_v 0) (ma_cons (me_ty rfl T.f_int (by decide +kernel)) ma_nil))) (me_and1 (me_not (me_cb cm_isi (by rfl) T.f_isinstance (by decide +kernel) (ma_cons (me_v 0) (ma_cons (me_ty rfl T.f_bool (by decide +kernel)) ma_nil))))))))
theorem sc__law_among : FnScope [("_law_thing" : Str), ("_law_low" : Str), ("_law_high" : Str)] [("_law_thing" : Str), ("_law_low" : Str), ("_law_high" : Str)] (defScope s__law_among) := ⟨rfl, rfl, rfl, by decide +kernel, rfl, by decide +kernel, by decide +kernel⟩
theorem ok__law_among {fd : FuncData} (T : Tx w K mg) (F : FunD K "_law_among" "_law_among" (defArgs s__law_among) (defBody s__law_among) (defScope s__law_among) [] [] (He.ga K "_law_among") fd) {fd__law_whole : FuncData} (F__law_whole : FnM P w K mg base 1 (He.ga K "_law_whole") fd__law_whole [("_law_thing" : Str)] m__law_whole) (E_ab__law_whole_1 : AB P w K mg base fd__law_whole [("_law_thing" : Str)] 1 [] (fun ds _ => ds)) : FnM P w K mg base 2 (He.ga K "_law_among") fd [("_law_thing" : Str), ("_law_low" : Str), ("_law_high" : Str)] m__law_among := by
  refine fnM_of F sc__law_among fun cdv A outer s H E hr hg => ?_
  have hgd : (A.deeper (envOfC "_law_among" (defScope s__law_among) s.heap.objs.size (He.ga K "_law_among") cdv)).guards = some [] := hg
  have tk := takes_of (X := cxOf (L2.CX P w) P w K mg base [("_law_thing" : Str), ("_law_low" : Str), ("_law_high" : Str)] "_law_among" (defScope s__law_among) (He.ga K "_law_among") cdv A outer s H E) rfl rfl rfl rfl
  exact (mss_one (ms_ret (me_and (me_call F__law_whole E_ab__law_whole_1 (hr.mono (by decide)) hgd tk rfl T.g__law_whole T.k__law_whole (ma_cons (me_v 0) ma_nil)) (me_and1 (me_ch om_le om_le (me_v 1) (me_v 0) (me_v 2))))))
theorem sc__law_are_kinds : FnScope [("_law_thing" : Str), ("_law_many" : Str), ("_law_one" : Str)] [("_law_thing" : Str), ("_law_many" : Str)] (defScope s__law_are_kinds) := ⟨rfl, rfl, rfl, by decide +kernel, rfl, by decide +kernel, by decide +kernel⟩
theorem ok__law_are_kinds {fd : FuncData} (T : Tx w K mg) (F : FunD K "_law_are_kinds" "_law_are_kinds" (defArgs s__law_are_kinds) (defBody s__law_are_kinds) (defScope s__law_are_kinds) [] [] (He.ga K "_law_are_kinds") fd) {fd__law_among : FuncData} (F__law_among : FnM P w K mg base 2 (He.ga K "_law_among") fd__law_among [("_law_thing" : Str), ("_law_low" : Str), ("_law_high" : Str)] m__law_among) (E_ab__law_among_3 : AB P w K mg base fd__law_among [("_law_thing" : Str), ("_law_low" : Str), ("_law_high" : Str)] 3 [] (fun ds _ => ds)) : FnM P w K mg base 3 (He.ga K "_law_are_kinds") fd [("_law_thing" : Str), ("_law_many" : Str)] m__law_are_kinds := by
  refine fnM_of F sc__law_are_kinds fun cdv A outer s H E hr hg => ?_
  have hgd : (A.deeper (envOfC "_law_are_kinds" (defScope s__law_are_kinds) s.heap.objs.size (He.ga K "_law_are_kinds") cdv)).guards = some [] := hg
  have tk := takes_of (X := cxOf (L2.CX P w) P w K mg base [("_law_thing" : Str), ("_law_many" : Str), ("_law_one" : Str)] "_law_are_kinds" (defScope s__law_are_kinds) (He.ga K "_law_are_kinds") cdv A outer s H E) rfl rfl rfl rfl
  exact (mss_cons (ms_if (mt_w (mw_or (mt_not (mt_tru (me_cb cm_isi (by rfl) T.f_isinstance (by decide +kernel) (ma_cons (me_v 0) (ma_cons (me_ty rfl T.f_tuple (by decide +kernel)) ma_nil))))) (mw_or1 (mt_not (mt_tru (me_cb (cm_all rfl) (by rfl) T.f_all (by decide +kernel) (ma_cons (me_lcV (own := [(("_law_one" : Str), 2)]) (g := gName 2) rfl sc__law_are_kinds.nd (blkOk_by (N := [("_law_thing" : Str), ("_law_many" : Str), ("_law_one" : Str)]) (sc := defScope s__law_are_kinds) (by decide +kernel)) (own_n (by decide)) (mi_it (me_v 0)) (fun _ _ _ _ _ => pg_name (i := 2) sc__law_are_kinds.nd rfl (Or.inl rfl)) (fun _ _ _ _ _ => mts_nil) (fun _ _ _ _ _ => (me_call F__law_among E_ab__law_among_3 (hr.mono (by decide)) hgd takes0 rfl T.g__law_among T.k__law_among (ma_cons (me_v 2) (ma_cons me_int (ma_cons (me_op om_sub (me_v 1) me_int) ma_nil)))))) ma_nil))))))) (mss_one (ms_ret me_bl)) mss_nil)
    (mss_one (ms_ret (me_cmp (om_in (hu65 hr)) (me_v 0) (me_tup (ma_cons (me_tup (ma_cons me_int ma_nil)) (ma_cons (me_tup (ma_cons me_int ma_nil)) (ma_cons (me_tup (ma_cons me_int (ma_cons me_int ma_nil))) ma_nil)))) (by with_unfolding_all rfl)))))
theorem sc__law_is_layer : FnScope [("_law_thing" : Str), ("_law_count" : Str), ("_law_many" : Str), ("_law_name" : Str), ("_law_items" : Str), ("_law_fits" : Str), ("_law_low" : Str), ("_law_high" : Str), ("_law_one" : Str)] [("_law_thing" : Str), ("_law_count" : Str), ("_law_many" : Str)] (defScope s__law_is_layer) := ⟨rfl, rfl, rfl, by decide +kernel, rfl, by decide +kernel, by decide +kernel⟩
theorem ok__law_is_layer {fd : FuncData} (T : Tx w K mg) (F : FunD K "_law_is_layer" "_law_is_layer" (defArgs s__law_is_layer) (defBody s__law_is_layer) (defScope s__law_is_layer) [] [] (He.ga K "_law_is_layer") fd) {fd__law_among : FuncData} (F__law_among : FnM P w K mg base 2 (He.ga K "_law_among") fd__law_among [("_law_thing" : Str), ("_law_low" : Str), ("_law_high" : Str)] m__law_among) (E_ab__law_among_3 : AB P w K mg base fd__law_among [("_law_thing" : Str), ("_law_low" : Str), ("_law_high" : Str)] 3 [] (fun ds _ => ds)) {fd__law_are_kinds : FuncData} (F__law_are_kinds : FnM P w K mg base 3 (He.ga K "_law_are_kinds") fd__law_are_kinds [("_law_thing" : Str), ("_law_many" : Str)] m__law_are_kinds) (E_ab__law_are_kinds_2 : AB P w K mg base fd__law_are_kinds [("_law_thing" : Str), ("_law_many" : Str)] 2 [] (fun ds _ => ds)) : FnM P w K mg base 4 (He.ga K "_law_is_layer") fd [("_law_thing" : Str), ("_law_count" : Str), ("_law_many" : Str)] m__law_is_layer := by
  refine fnM_of F sc__law_is_layer fun cdv A outer s H E hr hg => ?_
  have hgd : (A.deeper (envOfC "_law_is_layer" (defScope s__law_is_layer) s.heap.objs.size (He.ga K "_law_is_layer") cdv)).guards = some [] := hg
  have tk := takes_of (X := cxOf (L2.CX P w) P w K mg base [("_law_thing" : Str), ("_law_count" : Str), ("_law_many" : Str), ("_law_name" : Str), ("_law_items" : Str), ("_law_fits" : Str), ("_law_low" : Str), ("_law_high" : Str), ("_law_one" : Str)] "_law_is_layer" (defScope s__law_is_layer) (He.ga K "_law_is_layer") cdv A outer s H E) rfl rfl rfl rfl
  exact (mss_cons (ms_if (mt_w (mw_or (mt_not (mt_tru (me_cb cm_isi (by rfl) T.f_isinstance (by decide +kernel) (ma_cons (me_v 0) (ma_cons (me_ty rfl T.f_tuple (by decide +kernel)) ma_nil))))) (mw_or (mt_cmp (om_eq (hu64 hr)) (me_v 0) (me_tup ma_nil) (nomark _)) (mw_or1 (mt_not (mt_tru (me_cb cm_isi (by rfl) T.f_isinstance (by decide +kernel) (ma_cons (me_ix ixm (me_v 0) me_int (fun _ _ => rfl)) (ma_cons (me_ty rfl T.f_str (by decide +kernel)) ma_nil))))))))) (mss_one (ms_ret me_bl)) mss_nil)
    (mss_cons (ms_par rfl sc__law_is_layer.nd rfl rfl (by decide) rfl rfl (ma_cons (me_ix ixm (me_v 0) me_int (fun _ _ => rfl)) (ma_cons (me_sl (me_v 0) (mo_some me_int) mo_none) ma_nil)) (by rfl))
    (mss_cons (ms_if (mt_cmp (om_in (hu65 hr)) (me_v 3) (me_tup (ma_cons me_str (ma_cons me_str ma_nil))) (by with_unfolding_all rfl)) (mss_one (ms_ret (me_cmp (om_eq (hu64 hr)) (me_v 4) (me_tup ma_nil) (nomark _)))) mss_nil)
    (mss_cons (ms_if (mt_cmp (om_eq (hu64 hr)) (me_v 3) me_str (nomark _)) (mss_one (ms_ret (me_and (me_cmp (om_eq (hu64 hr)) (me_cb cm_len (by rfl) T.f_len (by decide +kernel) (ma_cons (me_v 4) ma_nil)) me_int (nomark _)) (me_and1 (me_call F__law_are_kinds E_ab__law_are_kinds_2 (hr.mono (by decide)) hgd tk rfl T.g__law_are_kinds T.k__law_are_kinds (ma_cons (me_ix ixm (me_v 4) me_int (fun _ _ => rfl)) (ma_cons (me_v 2) ma_nil))))))) mss_nil)
    (mss_cons (ms_if (mt_cmp (om_eq (hu64 hr)) (me_v 3) me_str (nomark _)) (mss_one (ms_ret (me_and (me_cmp (om_eq (hu64 hr)) (me_cb cm_len (by rfl) T.f_len (by decide +kernel) (ma_cons (me_v 4) ma_nil)) me_int (nomark _)) (me_and1 (me_call F__law_among E_ab__law_among_3 (hr.mono (by decide)) hgd tk rfl T.g__law_among T.k__law_among (ma_cons (me_ix ixm (me_v 4) me_int (fun _ _ => rfl)) (ma_cons me_int (ma_cons (me_op om_sub (me_v 2) me_int) ma_nil)))))))) mss_nil)
    (mss_cons (ms_if (mt_cmp (om_in (hu65 hr)) (me_v 3) (me_tup (ma_cons me_str (ma_cons me_str ma_nil))) (by with_unfolding_all rfl)) (mss_one (ms_ret (me_and (me_cmp (om_eq (hu64 hr)) (me_cb cm_len (by rfl) T.f_len (by decide +kernel) (ma_cons (me_v 4) ma_nil)) me_int (nomark _)) (me_and (me_call F__law_among E_ab__law_among_3 (hr.mono (by decide)) hgd tk rfl T.g__law_among T.k__law_among (ma_cons (me_ix ixm (me_v 4) me_int (fun _ _ => rfl)) (ma_cons (me_ct cm_int (by rfl) T.f_int (by decide +kernel) (ma_cons (me_cmp (om_eq (hu64 hr)) (me_v 3) me_str (nomark _)) ma_nil)) (ma_cons me_int ma_nil)))) (me_and1 (me_call F__law_among E_ab__law_among_3 (hr.mono (by decide)) hgd tk rfl T.g__law_among T.k__law_among (ma_cons (me_ix ixm (me_v 4) me_int (fun _ _ => rfl)) (ma_cons me_int (ma_cons (me_op om_sub (me_v 2) me_int) ma_nil))))))))) mss_nil)
    (mss_cons (ms_if (mt_cmp (om_eq (hu64 hr)) (me_v 3) me_str (nomark _)) (mss_cons (ms_set 5 sc__law_is_layer.nd rfl (by first | exact Or.inl rfl | exact Or.inr rfl) (me_and (me_cmp (om_eq (hu64 hr)) (me_cb cm_len (by rfl) T.f_len (by decide +kernel) (ma_cons (me_v 4) ma_nil)) me_int (nomark _)) (me_and (me_call F__law_among E_ab__law_among_3 (hr.mono (by decide)) hgd tk rfl T.g__law_among T.k__law_among (ma_cons (me_ix ixm (me_v 4) me_int (fun _ _ => rfl)) (ma_cons me_int (ma_cons me_int ma_nil)))) (me_and1 (me_call F__law_among E_ab__law_among_3 (hr.mono (by decide)) hgd tk rfl T.g__law_among T.k__law_among (ma_cons (me_ix ixm (me_v 4) me_int (fun _ _ => rfl)) (ma_cons me_int (ma_cons me_int ma_nil))))))))
    (mss_one (ms_ret (me_and (me_v 5) (me_and1 (me_call F__law_among E_ab__law_among_3 (hr.mono (by decide)) hgd tk rfl T.g__law_among T.k__law_among (ma_cons (me_ix ixm (me_v 4) me_int (fun _ _ => rfl)) (ma_cons me_int (ma_cons (me_op om_sub (me_v 2) me_int) ma_nil))))))))) mss_nil)
    (mss_cons (ms_if (mt_cmp (om_in (hu65 hr)) (me_v 3) (me_tup (ma_cons me_str (ma_cons me_str ma_nil))) (by with_unfolding_all rfl)) (mss_cons (ms_asgT' (me_if (mt_cmp (om_eq (hu64 hr)) (me_v 3) me_str (nomark _)) (me_lst (ma_cons me_int (ma_cons me_int ma_nil))) (me_lst (ma_cons me_int (ma_cons me_int ma_nil)))) (mg_tupA rfl (mgs_cons (mg_n 6 sc__law_is_layer.nd rfl (by first | exact Or.inl rfl | exact Or.inr rfl)) (mgs_cons (mg_n 7 sc__law_is_layer.nd rfl (by first | exact Or.inl rfl | exact Or.inr rfl)) mgs_nil))))
    (mss_one (ms_ret (me_and (me_cmp (om_eq (hu64 hr)) (me_cb cm_len (by rfl) T.f_len (by decide +kernel) (ma_cons (me_v 4) ma_nil)) me_int (nomark _)) (me_and (me_call F__law_among E_ab__law_among_3 (hr.mono (by decide)) hgd tk rfl T.g__law_among T.k__law_among (ma_cons (me_ix ixm (me_v 4) me_int (fun _ _ => rfl)) (ma_cons (me_v 6) (ma_cons (me_v 7) ma_nil)))) (me_and1 (me_call F__law_are_kinds E_ab__law_are_kinds_2 (hr.mono (by decide)) hgd tk rfl T.g__law_are_kinds T.k__law_are_kinds (ma_cons (me_ix ixm (me_v 4) me_int (fun _ _ => rfl)) (ma_cons (me_v 2) ma_nil))))))))) mss_nil)
    (mss_cons (ms_if (mt_cmp (om_eq (hu64 hr)) (me_v 3) me_str (nomark _)) (mss_cons (ms_set 5 sc__law_is_layer.nd rfl (by first | exact Or.inl rfl | exact Or.inr rfl) (me_and (me_cmp (om_eq (hu64 hr)) (me_cb cm_len (by rfl) T.f_len (by decide +kernel) (ma_cons (me_v 4) ma_nil)) me_int (nomark _)) (me_and (me_call F__law_among E_ab__law_among_3 (hr.mono (by decide)) hgd tk rfl T.g__law_among T.k__law_among (ma_cons (me_ix ixm (me_v 4) me_int (fun _ _ => rfl)) (ma_cons me_int (ma_cons (me_op om_sub (me_v 2) me_int) ma_nil)))) (me_and1 (me_call F__law_among E_ab__law_among_3 (hr.mono (by decide)) hgd tk rfl T.g__law_among T.k__law_among (ma_cons (me_ix ixm (me_v 4) me_int (fun _ _ => rfl)) (ma_cons me_int (ma_cons (me_op om_sub (me_v 2) me_int) ma_nil))))))))
    (mss_one (ms_ret (me_and (me_v 5) (me_and1 (me_cmp (om_ne (hu64 hr)) (me_ix ixm (me_v 4) me_int (fun _ _ => rfl)) (me_ix ixm (me_v 4) me_int (fun _ _ => rfl)) (nomark _))))))) mss_nil)
    (mss_cons (ms_if (mt_w (mw_or (mt_cmp (om_ne (hu64 hr)) (me_v 3) me_str (nomark _)) (mw_or (mt_cmp (om_ne (hu64 hr)) (me_cb cm_len (by rfl) T.f_len (by decide +kernel) (ma_cons (me_v 4) ma_nil)) me_int (nomark _)) (mw_or (mt_not (mt_tru (me_cb cm_isi (by rfl) T.f_isinstance (by decide +kernel) (ma_cons (me_ix ixm (me_v 4) me_int (fun _ _ => rfl)) (ma_cons (me_ty rfl T.f_tuple (by decide +kernel)) ma_nil))))) (mw_or1 (mt_cmp (om_ne (hu64 hr)) (me_cb cm_len (by rfl) T.f_len (by decide +kernel) (ma_cons (me_ix ixm (me_v 4) me_int (fun _ _ => rfl)) ma_nil)) (me_v 1) (nomark _))))))) (mss_one (ms_ret me_bl)) mss_nil)
    (mss_one (ms_ret (me_cb (cm_all rfl) (by rfl) T.f_all (by decide +kernel) (ma_cons (me_lcV (own := [(("_law_one" : Str), 8)]) (g := gName 8) rfl sc__law_is_layer.nd (blkOk_by (N := [("_law_thing" : Str), ("_law_count" : Str), ("_law_many" : Str), ("_law_name" : Str), ("_law_items" : Str), ("_law_fits" : Str), ("_law_low" : Str), ("_law_high" : Str), ("_law_one" : Str)]) (sc := defScope s__law_is_layer) (by decide +kernel)) (own_n (by decide)) (mi_it (me_ix ixm (me_v 4) me_int (fun _ _ => rfl))) (fun _ _ _ _ _ => pg_name (i := 8) sc__law_is_layer.nd rfl (Or.inl rfl)) (fun _ _ _ _ _ => mts_nil) (fun _ _ _ _ _ => (me_call F__law_among E_ab__law_among_3 (hr.mono (by decide)) hgd takes0 rfl T.g__law_among T.k__law_among (ma_cons (me_v 8) (ma_cons me_int (ma_cons (me_op om_sub (me_v 1) me_int) ma_nil)))))) ma_nil))))))))))))))
theorem sc__law_some_kinds : FnScope [("_law_bag_here" : Str), ("_law_many" : Str)] [("_law_bag_here" : Str), ("_law_many" : Str)] (defScope s__law_some_kinds) := ⟨rfl, rfl, rfl, by decide +kernel, rfl, by decide +kernel, by decide +kernel⟩
theorem ok__law_some_kinds {fd : FuncData} (T : Tx w K mg) (F : FunD K "_law_some_kinds" "_law_some_kinds" (defArgs s__law_some_kinds) (defBody s__law_some_kinds) (defScope s__law_some_kinds) [] [] (He.ga K "_law_some_kinds") fd) {fd__law_take : FuncData} (F__law_take : FnM P w K mg base 1 (He.ga K "_law_take") fd__law_take [("_law_bag_here" : Str), ("_law_many" : Str)] m__law_take) (E_ab__law_take_2 : AB P w K mg base fd__law_take [("_law_bag_here" : Str), ("_law_many" : Str)] 2 [] (fun ds _ => ds)) : FnM P w K mg base 2 (He.ga K "_law_some_kinds") fd [("_law_bag_here" : Str), ("_law_many" : Str)] m__law_some_kinds := by
  refine fnM_of F sc__law_some_kinds fun cdv A outer s H E hr hg => ?_
  have hgd : (A.deeper (envOfC "_law_some_kinds" (defScope s__law_some_kinds) s.heap.objs.size (He.ga K "_law_some_kinds") cdv)).guards = some [] := hg
  have tk := takes_of (X := cxOf (L2.CX P w) P w K mg base [("_law_bag_here" : Str), ("_law_many" : Str)] "_law_some_kinds" (defScope s__law_some_kinds) (He.ga K "_law_some_kinds") cdv A outer s H E) rfl rfl rfl rfl
  exact (mss_one (ms_ret (me_if (mt_cmp (om_eq (hu64 hr)) (me_v 1) me_int (nomark _)) (me_ix ixm (me_lst (ma_cons (me_tup (ma_cons me_int ma_nil)) (ma_cons (me_tup (ma_cons me_int (ma_cons me_int ma_nil))) (ma_cons (me_tup (ma_cons me_int ma_nil)) (ma_cons (me_tup (ma_cons me_int ma_nil)) ma_nil))))) (me_call F__law_take E_ab__law_take_2 (hr.mono (by decide)) hgd tk rfl T.g__law_take T.k__law_take (ma_cons (me_v 0) (ma_cons me_int ma_nil))) (fun _ _ => rfl)) (me_tup (ma_cons me_int ma_nil)))))
theorem sc__law_layer : FnScope [("_law_bag_here" : Str), ("_law_count" : Str), ("_law_many" : Str), ("_law_kind" : Str), ("_law_some" : Str), ("_law_n" : Str), ("_law_made" : Str), ("_law_k" : Str)] [("_law_bag_here" : Str), ("_law_count" : Str), ("_law_many" : Str)] (defScope s__law_layer) := ⟨rfl, rfl, rfl, by decide +kernel, rfl, by decide +kernel, by decide +kernel⟩
theorem ok__law_layer {fd : FuncData} (T : Tx w K mg) (F : FunD K "_law_layer" "_law_layer" (defArgs s__law_layer) (defBody s__law_layer) (defScope s__law_layer) [] [] (He.ga K "_law_layer") fd) {fd__law_take : FuncData} (F__law_take : FnM P w K mg base 1 (He.ga K "_law_take") fd__law_take [("_law_bag_here" : Str), ("_law_many" : Str)] m__law_take) (E_ab__law_take_2 : AB P w K mg base fd__law_take [("_law_bag_here" : Str), ("_law_many" : Str)] 2 [] (fun ds _ => ds)) {fd__law_some_kinds : FuncData} (F__law_some_kinds : FnM P w K mg base 2 (He.ga K "_law_some_kinds") fd__law_some_kinds [("_law_bag_here" : Str), ("_law_many" : Str)] m__law_some_kinds) (E_ab__law_some_kinds_2 : AB P w K mg base fd__law_some_kinds [("_law_bag_here" : Str), ("_law_many" : Str)] 2 [] (fun ds _ => ds)) : FnM P w K mg base 3 (He.ga K "_law_layer") fd [("_law_bag_here" : Str), ("_law_count" : Str), ("_law_many" : Str)] m__law_layer := by
  refine fnM_of F sc__law_layer fun cdv A outer s H E hr hg => ?_
  have hgd : (A.deeper (envOfC "_law_layer" (defScope s__law_layer) s.heap.objs.size (He.ga K "_law_layer") cdv)).guards = some [] := hg
  have tk := takes_of (X := cxOf (L2.CX P w) P w K mg base [("_law_bag_here" : Str), ("_law_count" : Str), ("_law_many" : Str), ("_law_kind" : Str), ("_law_some" : Str), ("_law_n" : Str), ("_law_made" : Str), ("_law_k" : Str)] "_law_layer" (defScope s__law_layer) (He.ga K "_law_layer") cdv A outer s H E) rfl rfl rfl rfl
  exact (mss_cons (ms_par3 rfl sc__law_layer.nd rfl rfl rfl (by decide) (by decide) (by decide) rfl rfl rfl (ma_cons (me_call F__law_take E_ab__law_take_2 (hr.mono (by decide)) hgd tk rfl T.g__law_take T.k__law_take (ma_cons (me_v 0) (ma_cons (me_v 2) ma_nil))) (ma_cons (me_call F__law_some_kinds E_ab__law_some_kinds_2 (hr.mono (by decide)) hgd tk rfl T.g__law_some_kinds T.k__law_some_kinds (ma_cons (me_v 0) (ma_cons (me_v 2) ma_nil))) (ma_cons (me_op om_add me_int (me_call F__law_take E_ab__law_take_2 (hr.mono (by decide)) hgd tk rfl T.g__law_take T.k__law_take (ma_cons (me_v 0) (ma_cons me_int ma_nil)))) ma_nil))) (by rfl))
    (mss_cons (ms_set 6 sc__law_layer.nd rfl (by first | exact Or.inl rfl | exact Or.inr rfl) (me_lst (ma_cons (me_tup (ma_cons me_str ma_nil)) (ma_cons (me_tup (ma_cons me_str ma_nil)) (ma_cons (me_tup (ma_cons me_str (ma_cons (me_v 4) ma_nil))) (ma_cons (me_tup (ma_cons me_str (ma_cons (me_call F__law_take E_ab__law_take_2 (hr.mono (by decide)) hgd tk rfl T.g__law_take T.k__law_take (ma_cons (me_v 0) (ma_cons me_int ma_nil))) (ma_cons (me_v 3) ma_nil)))) (ma_cons (me_tup (ma_cons me_str (ma_cons (me_v 5) (ma_cons (me_v 3) ma_nil)))) ma_nil)))))))
    (mss_cons (ms_set 6 sc__law_layer.nd rfl (by first | exact Or.inl rfl | exact Or.inr rfl) (me_catN T.nokl (me_v 6) (me_lst (ma_cons (me_tup (ma_cons me_str (ma_cons (me_v 3) ma_nil))) (ma_cons (me_tup (ma_cons me_str (ma_cons (me_v 5) (ma_cons (me_op om_add me_int (me_call F__law_take E_ab__law_take_2 (hr.mono (by decide)) hgd tk rfl T.g__law_take T.k__law_take (ma_cons (me_v 0) (ma_cons me_int ma_nil)))) (ma_cons (me_v 3) ma_nil))))) (ma_cons (me_tup (ma_cons me_str (ma_cons (me_v 5) (ma_cons (me_v 4) ma_nil)))) ma_nil))))))
    (mss_cons (ms_expr (me_app (me_v 6) (ma_cons (me_tup (ma_cons me_str (ma_cons (me_call F__law_take E_ab__law_take_2 (hr.mono (by decide)) hgd tk rfl T.g__law_take T.k__law_take (ma_cons (me_v 0) (ma_cons me_int ma_nil))) (ma_cons (me_v 4) ma_nil)))) ma_nil)))
    (mss_cons (ms_expr (me_app (me_v 6) (ma_cons (me_tup (ma_cons me_str (ma_cons (me_ct cm_tupOf (by rfl) T.f_tuple (by decide +kernel) (ma_cons (me_lcV (own := [(("_law_k" : Str), 7)]) (g := gName 7) rfl sc__law_layer.nd (blkOk_by (N := [("_law_bag_here" : Str), ("_law_count" : Str), ("_law_many" : Str), ("_law_kind" : Str), ("_law_some" : Str), ("_law_n" : Str), ("_law_made" : Str), ("_law_k" : Str)]) (sc := defScope s__law_layer) (by decide +kernel)) (own_n (by decide)) (mi_range1 rfl T.f_range (ma_cons (me_v 1) ma_nil)) (fun _ _ _ _ _ => pg_name (i := 7) sc__law_layer.nd rfl (Or.inl rfl)) (fun _ _ _ _ _ => mts_nil) (fun _ _ _ _ _ => (me_call F__law_take E_ab__law_take_2 (hr.mono (by decide)) hgd takes0 rfl T.g__law_take T.k__law_take (ma_cons (me_v 0) (ma_cons (me_v 1) ma_nil))))) ma_nil)) ma_nil))) ma_nil)))
    (mss_cons (ms_if (mt_cmp (om_eq (hu64 hr)) (me_v 2) me_int (nomark _)) (mss_one (ms_set 6 sc__law_layer.nd rfl (by first | exact Or.inl rfl | exact Or.inr rfl) (me_catV T.nokl (me_v 6) (me_lst (ma_cons (me_tup (ma_cons me_str (ma_cons (me_v 3) (ma_cons (me_op om_sub me_int (me_v 3)) ma_nil)))) ma_nil))))) mss_nil)
    (mss_one (ms_ret (me_ix ixm (me_v 6) (me_call F__law_take E_ab__law_take_2 (hr.mono (by decide)) hgd tk rfl T.g__law_take T.k__law_take (ma_cons (me_v 0) (ma_cons (me_cb cm_len (by rfl) T.f_len (by decide +kernel) (ma_cons (me_v 6) ma_nil)) ma_nil))) (fun _ _ => rfl))))))))))
theorem sc__law_bag : FnScope [("_law_script" : Str), ("_law_at" : Str), ("_law_cell" : Str), ("_law_digits" : Str)] [("_law_script" : Str), ("_law_at" : Str)] (defScope s__law_bag) := ⟨rfl, rfl, rfl, by decide +kernel, rfl, by decide +kernel, by decide +kernel⟩
theorem ok__law_bag {fd : FuncData} (T : Tx w K mg) (F : FunD K "_law_bag" "_law_bag" (defArgs s__law_bag) (defBody s__law_bag) (defScope s__law_bag) [] [] (He.ga K "_law_bag") fd) : FnM P w K mg base 1 (He.ga K "_law_bag") fd [("_law_script" : Str), ("_law_at" : Str)] m__law_bag := by
  refine fnM_of F sc__law_bag fun cdv A outer s H E hr hg => ?_
  have hgd : (A.deeper (envOfC "_law_bag" (defScope s__law_bag) s.heap.objs.size (He.ga K "_law_bag") cdv)).guards = some [] := hg
  have tk := takes_of (X := cxOf (L2.CX P w) P w K mg base [("_law_script" : Str), ("_law_at" : Str), ("_law_cell" : Str), ("_law_digits" : Str)] "_law_bag" (defScope s__law_bag) (He.ga K "_law_bag") cdv A outer s H E) rfl rfl rfl rfl
  exact (mss_cons (ms_set 2 sc__law_bag.nd rfl (by first | exact Or.inl rfl | exact Or.inr rfl) (me_if (mt_cmp om_lt (me_v 1) (me_cb cm_len (by rfl) T.f_len (by decide +kernel) (ma_cons (me_v 0) ma_nil)) (nomark _)) (me_ix ixm (me_v 0) (me_v 1) (fun _ _ => rfl)) me_int))
    (mss_cons (ms_set 3 sc__law_bag.nd rfl (by first | exact Or.inl rfl | exact Or.inr rfl) (me_if (mt_cmp om_ge (me_cb cm_abs (by rfl) T.f_abs (by decide +kernel) (ma_cons (me_v 2) ma_nil)) (me_op om_pow me_int me_int) (nomark _)) (me_cb cm_abs (by rfl) T.f_abs (by decide +kernel) (ma_cons (me_v 2) ma_nil)) me_int))
    (mss_one (ms_ret (me_new (ma_cons (me_v 3) (ma_cons (me_op om_mod (me_op om_mul' (me_op om_add (me_op om_add (me_op om_mod (me_v 2) me_int) (me_op om_mul' me_int (me_v 1))) me_int) me_int) me_int) (ma_cons me_int ma_nil))))))))
theorem sc_law : FnScope [("_law_script" : Str), ("_law_at" : Str), ("_law_some" : Str), ("_law_bag_here" : Str), ("_law_turn" : Str), ("_law_layer_here" : Str), ("_law_bent_here" : Str), ("_law_thing" : Str), ("_law_text" : Str), ("_law_shape" : Str), ("_law_found" : Str)] [("_law_script" : Str)] (defScope s_law) := ⟨rfl, rfl, rfl, by decide +kernel, rfl, by decide +kernel, by decide +kernel⟩
theorem ok_law {fd : FuncData} (T : Tx w K mg) (F : FunD K "law" "law" (defArgs s_law) (defBody s_law) (defScope s_law) [] [] (He.ga K "law") fd) {fd_is_layer : FuncData} (F_is_layer : FnM P w K mg base 5 (He.ga K "is_layer") fd_is_layer [("thing" : Str), ("arguments" : Str), ("kinds" : Str)] m_is_layer) (E_ab_is_layer_1 : AB P w K mg base fd_is_layer [("thing" : Str), ("arguments" : Str), ("kinds" : Str)] 1 [] (fun ds _ => ds ++ [D.int 2, D.int 2])) {fd__law_any : FuncData} (F__law_any : FnM P w K mg base 2 (He.ga K "_law_any") fd__law_any [("_law_bag_here" : Str)] m__law_any) (E_ab__law_any_1 : AB P w K mg base fd__law_any [("_law_bag_here" : Str)] 1 [] (fun ds _ => ds)) {fd__law_bent : FuncData} (F__law_bent : FnM P w K mg base 11 (He.ga K "_law_bent") fd__law_bent [("_law_bag_here" : Str), ("_law_thing" : Str)] (m__law_bent 8)) (E_ab__law_bent_2 : AB P w K mg base fd__law_bent [("_law_bag_here" : Str), ("_law_thing" : Str)] 2 [] (fun ds _ => ds)) {fd__law_is_layer : FuncData} (F__law_is_layer : FnM P w K mg base 4 (He.ga K "_law_is_layer") fd__law_is_layer [("_law_thing" : Str), ("_law_count" : Str), ("_law_many" : Str)] m__law_is_layer) (E_ab__law_is_layer_3 : AB P w K mg base fd__law_is_layer [("_law_thing" : Str), ("_law_count" : Str), ("_law_many" : Str)] 3 [] (fun ds _ => ds)) (E_ab_is_layer_1_arguments_kinds : AB P w K mg base fd_is_layer [("thing" : Str), ("arguments" : Str), ("kinds" : Str)] 1 [("arguments" : Str), ("kinds" : Str)] (fun ds es => pk ds 0 ++ (pk es 0 ++ (pk es 1 ++ ([]))))) {fd__law_layer : FuncData} (F__law_layer : FnM P w K mg base 3 (He.ga K "_law_layer") fd__law_layer [("_law_bag_here" : Str), ("_law_count" : Str), ("_law_many" : Str)] m__law_layer) (E_ab__law_layer_3 : AB P w K mg base fd__law_layer [("_law_bag_here" : Str), ("_law_count" : Str), ("_law_many" : Str)] 3 [] (fun ds _ => ds)) {fd__law_take : FuncData} (F__law_take : FnM P w K mg base 1 (He.ga K "_law_take") fd__law_take [("_law_bag_here" : Str), ("_law_many" : Str)] m__law_take) (E_ab__law_take_2 : AB P w K mg base fd__law_take [("_law_bag_here" : Str), ("_law_many" : Str)] 2 [] (fun ds _ => ds)) {fd__law_bag : FuncData} (F__law_bag : FnM P w K mg base 1 (He.ga K "_law_bag") fd__law_bag [("_law_script" : Str), ("_law_at" : Str)] m__law_bag) (E_ab__law_bag_2 : AB P w K mg base fd__law_bag [("_law_script" : Str), ("_law_at" : Str)] 2 [] (fun ds _ => ds)) : FnM P w K mg base 12 (He.ga K "law") fd [("_law_script" : Str)] m_law := by
  refine fnM_of F sc_law fun cdv A outer s H E hr hg => ?_
  have hgd : (A.deeper (envOfC "law" (defScope s_law) s.heap.objs.size (He.ga K "law") cdv)).guards = some [] := hg
  have tk := takes_of (X := cxOf (L2.CX P w) P w K mg base [("_law_script" : Str), ("_law_at" : Str), ("_law_some" : Str), ("_law_bag_here" : Str), ("_law_turn" : Str), ("_law_layer_here" : Str), ("_law_bent_here" : Str), ("_law_thing" : Str), ("_law_text" : Str), ("_law_shape" : Str), ("_law_found" : Str)] "law" (defScope s_law) (He.ga K "law") cdv A outer s H E) rfl rfl rfl rfl
  exact (mss_cons (ms_for 100 (passes_of rfl) rfl (mi_range1 rfl T.f_range (ma_cons (me_cb (cm_max rfl) (by rfl) T.f_max (by decide +kernel) (ma_cons me_int (ma_cons (me_cb (cm_min rfl) (by rfl) T.f_min (by decide +kernel) (ma_cons me_int (ma_cons (me_cb cm_len (by rfl) T.f_len (by decide +kernel) (ma_cons (me_v 0) ma_nil)) ma_nil))) ma_nil))) ma_nil)) (mg_n 1 sc_law.nd rfl (by first | exact Or.inl rfl | exact Or.inr rfl)) (mss_cons (ms_set 3 sc_law.nd rfl (by first | exact Or.inl rfl | exact Or.inr rfl) (me_call F__law_bag E_ab__law_bag_2 (hr.mono (by decide)) hgd tk rfl T.g__law_bag T.k__law_bag (ma_cons (me_v 0) (ma_cons (me_v 1) ma_nil))))
    (mss_one (ms_for 100 (passes_of rfl) rfl (mi_range1 rfl T.f_range (ma_cons me_int ma_nil)) (mg_n 4 sc_law.nd rfl (by first | exact Or.inl rfl | exact Or.inr rfl)) (mss_cons (ms_set 5 sc_law.nd rfl (by first | exact Or.inl rfl | exact Or.inr rfl) (me_call F__law_layer E_ab__law_layer_3 (hr.mono (by decide)) hgd tk rfl T.g__law_layer T.k__law_layer (ma_cons (me_v 3) (ma_cons (me_op om_add me_int (me_call F__law_take E_ab__law_take_2 (hr.mono (by decide)) hgd tk rfl T.g__law_take T.k__law_take (ma_cons (me_v 3) (ma_cons me_int ma_nil)))) (ma_cons (me_op om_add me_int (me_call F__law_take E_ab__law_take_2 (hr.mono (by decide)) hgd tk rfl T.g__law_take T.k__law_take (ma_cons (me_v 3) (ma_cons me_int ma_nil)))) ma_nil)))))
    (mss_cons (ms_set 6 sc_law.nd rfl (by first | exact Or.inl rfl | exact Or.inr rfl) (me_call F__law_bent E_ab__law_bent_2 (hr.mono (by decide)) hgd tk rfl T.g__law_bent T.k__law_bent (ma_cons (me_v 3) (ma_cons (me_v 5) ma_nil))))
    (mss_one (ms_for 100 (passes_of rfl) rfl (mi_it (me_lst (ma_cons (me_v 5) (ma_cons (me_v 6) (ma_cons (me_call F__law_bent E_ab__law_bent_2 (hr.mono (by decide)) hgd tk rfl T.g__law_bent T.k__law_bent (ma_cons (me_v 3) (ma_cons (me_v 6) ma_nil))) (ma_cons (me_listV rfl T.f_list (ma_cons (me_v 5) ma_nil)) (ma_cons (me_op om_add (me_v 5) (me_tup (ma_cons me_int ma_nil))) (ma_cons (me_sl (me_v 5) mo_none (mo_some (me_un um_neg me_int))) (ma_cons (me_call F__law_any E_ab__law_any_1 (hr.mono (by decide)) hgd tk rfl T.g__law_any T.k__law_any (ma_cons (me_v 3) ma_nil)) ma_nil))))))))) (mg_n 7 sc_law.nd rfl (by first | exact Or.inl rfl | exact Or.inr rfl)) (mss_cons (ms_set 8 sc_law.nd rfl (by first | exact Or.inl rfl | exact Or.inr rfl) (me_cb (cm_repr hgd (hu128 hr)) (by rfl) T.f_repr (by decide +kernel) (ma_cons (me_v 7) ma_nil)))
    (mss_cons (ms_for 100 (passes_of rfl) rfl (mi_it (me_lst (ma_cons (me_tup (ma_cons me_int (ma_cons me_int ma_nil))) (ma_cons (me_tup (ma_cons me_int (ma_cons me_int ma_nil))) (ma_cons (me_tup (ma_cons me_int (ma_cons me_int ma_nil))) (ma_cons (me_tup (ma_cons me_int (ma_cons me_int ma_nil))) ma_nil)))))) (mg_n 9 sc_law.nd rfl (by first | exact Or.inl rfl | exact Or.inr rfl)) (mss_cons (ms_set 10 sc_law.nd rfl (by first | exact Or.inl rfl | exact Or.inr rfl) (me_callK (ks := [("arguments" : Str), ("kinds" : Str)]) F_is_layer E_ab_is_layer_1_arguments_kinds (hr.mono (by decide)) hgd tk rfl T.g_is_layer T.k_is_layer (ma_cons (me_v 7) ma_nil) (mk_cons (me_ix ixm (me_v 9) me_int (fun _ _ => rfl)) (mk_cons (me_ix ixm (me_v 9) me_int (fun _ _ => rfl)) mk_nil))))
    (mss_one (ms_if (mt_w (mw_or (mt_not (mt_tru (me_cb cm_isi (by rfl) T.f_isinstance (by decide +kernel) (ma_cons (me_v 10) (ma_cons (me_ty rfl T.f_bool (by decide +kernel)) ma_nil))))) (mw_or1 (mt_cmp (om_ne (hu64 hr)) (me_v 10) (me_call F__law_is_layer E_ab__law_is_layer_3 (hr.mono (by decide)) hgd tk rfl T.g__law_is_layer T.k__law_is_layer (ma_cons (me_v 7) (ma_cons (me_ix ixm (me_v 9) me_int (fun _ _ => rfl)) (ma_cons (me_ix ixm (me_v 9) me_int (fun _ _ => rfl)) ma_nil)))) (nomark _))))) (mss_one (ms_ret me_bl)) mss_nil))))
    (mss_one (ms_if (mt_w (mw_or (mt_cmp (om_ne (hu64 hr)) (me_call F_is_layer E_ab_is_layer_1 (hr.mono (by decide)) hgd tk rfl T.g_is_layer T.k_is_layer (ma_cons (me_v 7) ma_nil)) (me_call F__law_is_layer E_ab__law_is_layer_3 (hr.mono (by decide)) hgd tk rfl T.g__law_is_layer T.k__law_is_layer (ma_cons (me_v 7) (ma_cons me_int (ma_cons me_int ma_nil)))) (nomark _)) (mw_or1 (mt_cmp (om_ne (hu64 hr)) (me_cb (cm_repr hgd (hu128 hr)) (by rfl) T.f_repr (by decide +kernel) (ma_cons (me_v 7) ma_nil)) (me_v 8) (nomark _))))) (mss_one (ms_ret me_bl)) mss_nil))))))))))))
    (mss_cons (ms_set 2 sc_law.nd rfl (by first | exact Or.inl rfl | exact Or.inr rfl) (me_lst (ma_cons (me_call F_is_layer E_ab_is_layer_1 (hr.mono (by decide)) hgd tk rfl T.g_is_layer T.k_is_layer (ma_cons (me_tup (ma_cons me_str (ma_cons me_int (ma_cons me_int ma_nil)))) ma_nil)) (ma_cons (me_call F_is_layer E_ab_is_layer_1 (hr.mono (by decide)) hgd tk rfl T.g_is_layer T.k_is_layer (ma_cons (me_tup (ma_cons me_str (ma_cons me_int (ma_cons me_int ma_nil)))) ma_nil)) (ma_cons (me_call F_is_layer E_ab_is_layer_1 (hr.mono (by decide)) hgd tk rfl T.g_is_layer T.k_is_layer (ma_cons (me_tup (ma_cons me_str (ma_cons me_int (ma_cons (me_tup (ma_cons me_int ma_nil)) ma_nil)))) ma_nil)) ma_nil)))))
    (mss_one (ms_ret (me_cmp (om_eq (hu64 hr)) (me_cb (cm_repr hgd (hu128 hr)) (by rfl) T.f_repr (by decide +kernel) (ma_cons (me_v 2) ma_nil)) me_str (nomark _))))))
end
end LW
set_option Elab.async false
set_option linter.all false
set_option maxRecDepth 100000
set_option maxHeartbeats 0
namespace LW
open PySem PySem.Spec PyProof.Rows L2 Br
def d_is_whole : He.DefD := ⟨("is_whole", none), "is_whole", "is_whole", defArgs s_is_whole, defBody s_is_whole, defScope s_is_whole, [], []⟩
def d_is_number : He.DefD := ⟨("is_number", none), "is_number", "is_number", defArgs s_is_number, defBody s_is_number, defScope s_is_number, [], []⟩
def d_are_arguments : He.DefD := ⟨("are_arguments", none), "are_arguments", "are_arguments", defArgs s_are_arguments, defBody s_are_arguments, defScope s_are_arguments, [], []⟩
def d_are_kinds : He.DefD := ⟨("are_kinds", none), "are_kinds", "are_kinds", defArgs s_are_kinds, defBody s_are_kinds, defScope s_are_kinds, [], []⟩
def d_is_item : He.DefD := ⟨("is_item", none), "is_item", "is_item", defArgs s_is_item, defBody s_is_item, defScope s_is_item, [], []⟩
def d_is_layer : He.DefD := ⟨("is_layer", none), "is_layer", "is_layer", defArgs s_is_layer, defBody s_is_layer, defScope s_is_layer, [], [("arguments", .int 2), ("kinds", .int 2)]⟩
def d__law_take : He.DefD := ⟨("_law_take", none), "_law_take", "_law_take", defArgs s__law_take, defBody s__law_take, defScope s__law_take, [], []⟩
def d__law_any : He.DefD := ⟨("_law_any", none), "_law_any", "_law_any", defArgs s__law_any, defBody s__law_any, defScope s__law_any, [], []⟩
def d__law_bent : He.DefD := ⟨("_law_bent", none), "_law_bent", "_law_bent", defArgs s__law_bent, defBody s__law_bent, defScope s__law_bent, [], []⟩
def d__law_whole : He.DefD := ⟨("_law_whole", none), "_law_whole", "_law_whole", defArgs s__law_whole, defBody s__law_whole, defScope s__law_whole, [], []⟩
def d__law_among : He.DefD := ⟨("_law_among", none), "_law_among", "_law_among", defArgs s__law_among, defBody s__law_among, defScope s__law_among, [], []⟩
def d__law_are_kinds : He.DefD := ⟨("_law_are_kinds", none), "_law_are_kinds", "_law_are_kinds", defArgs s__law_are_kinds, defBody s__law_are_kinds, defScope s__law_are_kinds, [], []⟩
def d__law_is_layer : He.DefD := ⟨("_law_is_layer", none), "_law_is_layer", "_law_is_layer", defArgs s__law_is_layer, defBody s__law_is_layer, defScope s__law_is_layer, [], []⟩
def d__law_some_kinds : He.DefD := ⟨("_law_some_kinds", none), "_law_some_kinds", "_law_some_kinds", defArgs s__law_some_kinds, defBody s__law_some_kinds, defScope s__law_some_kinds, [], []⟩
def d__law_layer : He.DefD := ⟨("_law_layer", none), "_law_layer", "_law_layer", defArgs s__law_layer, defBody s__law_layer, defScope s__law_layer, [], []⟩
def d__law_bag : He.DefD := ⟨("_law_bag", none), "_law_bag", "_law_bag", defArgs s__law_bag, defBody s__law_bag, defScope s__law_bag, [], []⟩
def d_law : He.DefD := ⟨("law", none), "law", "law", defArgs s_law, defBody s_law, defScope s_law, [], []⟩
def fn0 : List He.DefD := [d_is_whole, d_is_number, d_are_arguments, d_are_kinds, d_is_item, d_is_layer, d__law_take, d__law_any, d__law_bent, d__law_whole, d__law_among, d__law_are_kinds, d__law_is_layer, d__law_some_kinds, d__law_layer, d__law_bag, d_law]
def fn : List He.DefD := fn0
def fa0 : List He.Fa := [(.free "repr" : He.Fa), (.free "zip" : He.Fa), (.free "int" : He.Fa), (.free "isinstance" : He.Fa), (.free "bool" : He.Fa), (.glo "is_whole" : He.Fa), (.keep "is_whole" : He.Fa), (.int "MOST_COUNT" 2 : He.Fa), (.glo "is_number" : He.Fa), (.keep "is_number" : He.Fa), (.int "MOST_VALUE" 9 : He.Fa), (.free "tuple" : He.Fa), (.free "len" : He.Fa), (.free "all" : He.Fa), (.glo "are_arguments" : He.Fa), (.keep "are_arguments" : He.Fa), (.glo "are_kinds" : He.Fa), (.keep "are_kinds" : He.Fa), (.glo "is_item" : He.Fa), (.keep "is_item" : He.Fa), (.glo "FORMS" : He.Fa), (.free "str" : He.Fa), (.glo "is_layer" : He.Fa), (.keep "is_layer" : He.Fa), (.free "min" : He.Fa), (.free "max" : He.Fa), (.free "range" : He.Fa), (.glo "_law_take" : He.Fa), (.keep "_law_take" : He.Fa), (.glo "_law_any" : He.Fa)]
def fa1 : List He.Fa := [(.keep "_law_any" : He.Fa), (.free "list" : He.Fa), (.glo "_law_bent" : He.Fa), (.keep "_law_bent" : He.Fa), (.glo "_law_whole" : He.Fa), (.keep "_law_whole" : He.Fa), (.glo "_law_among" : He.Fa), (.keep "_law_among" : He.Fa), (.glo "_law_are_kinds" : He.Fa), (.keep "_law_are_kinds" : He.Fa), (.glo "_law_is_layer" : He.Fa), (.keep "_law_is_layer" : He.Fa), (.glo "_law_some_kinds" : He.Fa), (.keep "_law_some_kinds" : He.Fa), (.glo "_law_layer" : He.Fa), (.keep "_law_layer" : He.Fa), (.free "abs" : He.Fa), (.glo "_law_bag" : He.Fa), (.keep "_law_bag" : He.Fa), (.glo "law" : He.Fa)]
def fa : List He.Fa := fa0 ++ fa1
def nms0 : List PySem.Str := [("__name__" : PySem.Str), ("is_whole" : PySem.Str), ("is_number" : PySem.Str), ("MOST_COUNT" : PySem.Str), ("MOST_VALUE" : PySem.Str), ("FORMS" : PySem.Str), ("are_kinds" : PySem.Str), ("are_arguments" : PySem.Str), ("is_item" : PySem.Str), ("is_layer" : PySem.Str), ("_law_bag" : PySem.Str), ("_law_take" : PySem.Str), ("_law_some_kinds" : PySem.Str), ("_law_layer" : PySem.Str), ("_law_any" : PySem.Str), ("_law_bent" : PySem.Str), ("_law_whole" : PySem.Str), ("_law_among" : PySem.Str), ("_law_are_kinds" : PySem.Str), ("_law_is_layer" : PySem.Str)]
def nms : List PySem.Str := nms0
def ts : List He.Tab := [((fun K => He.ga K "FORMS"), kv_FORMS.map (·.1))]
def ex (K : PySem.W.Frag) : Bool := (K.all fun p => !(p.2.cls == .type "list")) && He.valsB K (He.ga K "FORMS") (kv_FORMS.map fun q => (q.1, He.Dv.str q.2))
abbrev RR : PySem.W.OpenRow := PySem.W.OpenLaw.row PySem.Challenge.rw_callayers_k01_layers_known
abbrev qv : Program := PySem.W.view RR.prog [22]
abbrev hk : PySem.W.Hook := He.hookX 5 fa fn ts [] ex
def ob (s : PySem.W.SharedT) := He.obsX 5 fa fn ts [] ex (HandSHeadRun.getT s)
theorem ob_eq (s : PySem.W.SharedT) : ob s = hk.obs s.abs := He.obsX_eq (HandSHeadRun.getT_eq s)

theorem run_ (w : World) : HandSHeadRun.RunEq RR qv hk ob 30000 nms w := by
  refine PySem.W.byRow2 "special-get-raises" (P := fun w => HandSHeadRun.RunEq RR qv hk ob 30000 nms w) (fun w os => ?_) (fun w os => ?_) w
  · kernel_rfl
  · kernel_rfl
theorem nokl_of {K : PySem.W.Frag} (h : ex K = true) : NoKL K := fun a o e c => by
  have h1 : (K.all fun p => !(p.2.cls == .type "list")) = true := (He.ba h).1
  have := List.all_eq_true.mp h1 (a, o) (He.lookup_mem e)
  rw [c] at this
  exact absurd this (by decide)
theorem facts {w : World} {K : PySem.W.Frag} {h : Heap} {mg : Str → Option Value} {f : Addr} (X : K.In h) (G : h.Ns mainGlobals mg) (hfa : mg ("law" : Str) = some (.ref f)) (c : He.SaysX fa fn ts [] ex w h K) :
    ∃ fd : FuncData, ∀ base : Heap, K.In base → base.Ns mainGlobals mg → FnM PySem.Challenge.rw_callayers_k01_layers_known.prog w K mg base 12 f fd [("_law_script" : Str)] m_law ∧ AB PySem.Challenge.rw_callayers_k01_layers_known.prog w K mg base fd [("_law_script" : Str)] 1 [] (fun ds _ => ds) := by
  have e := hfa.symm.trans (He.glo_ok X G (c.t.d.fact 49 (f := .glo "law") rfl))
  cases e
  have T : Tx w K mg := { nokl := nokl_of c.more, f_repr := He.free_ok X G (c.t.d.fact 0 (f := .free "repr") rfl), f_zip := He.free_ok X G (c.t.d.fact 1 (f := .free "zip") rfl), f_int := He.free_ok X G (c.t.d.fact 2 (f := .free "int") rfl), f_isinstance := He.free_ok X G (c.t.d.fact 3 (f := .free "isinstance") rfl), f_bool := He.free_ok X G (c.t.d.fact 4 (f := .free "bool") rfl), g_is_whole := He.glo_ok X G (c.t.d.fact 5 (f := .glo "is_whole") rfl), k_is_whole := He.keep_ok (c.t.d.fact 6 (f := .keep "is_whole") rfl), i_MOST_COUNT := He.int_ok X G (c.t.d.fact 7 (f := .int "MOST_COUNT" 2) rfl), g_is_number := He.glo_ok X G (c.t.d.fact 8 (f := .glo "is_number") rfl), k_is_number := He.keep_ok (c.t.d.fact 9 (f := .keep "is_number") rfl), i_MOST_VALUE := He.int_ok X G (c.t.d.fact 10 (f := .int "MOST_VALUE" 9) rfl), f_tuple := He.free_ok X G (c.t.d.fact 11 (f := .free "tuple") rfl), f_len := He.free_ok X G (c.t.d.fact 12 (f := .free "len") rfl), f_all := He.free_ok X G (c.t.d.fact 13 (f := .free "all") rfl), g_are_arguments := He.glo_ok X G (c.t.d.fact 14 (f := .glo "are_arguments") rfl), k_are_arguments := He.keep_ok (c.t.d.fact 15 (f := .keep "are_arguments") rfl), g_are_kinds := He.glo_ok X G (c.t.d.fact 16 (f := .glo "are_kinds") rfl), k_are_kinds := He.keep_ok (c.t.d.fact 17 (f := .keep "are_kinds") rfl), g_is_item := He.glo_ok X G (c.t.d.fact 18 (f := .glo "is_item") rfl), k_is_item := He.keep_ok (c.t.d.fact 19 (f := .keep "is_item") rfl), g_FORMS := He.glo_ok X G (c.t.d.fact 20 (f := .glo "FORMS") rfl), ks_FORMS := ks_of (tab_at c.t 0 rfl) (He.ba c.more).2, f_str := He.free_ok X G (c.t.d.fact 21 (f := .free "str") rfl), g_is_layer := He.glo_ok X G (c.t.d.fact 22 (f := .glo "is_layer") rfl), k_is_layer := He.keep_ok (c.t.d.fact 23 (f := .keep "is_layer") rfl), f_min := He.free_ok X G (c.t.d.fact 24 (f := .free "min") rfl), f_max := He.free_ok X G (c.t.d.fact 25 (f := .free "max") rfl), f_range := He.free_ok X G (c.t.d.fact 26 (f := .free "range") rfl), g__law_take := He.glo_ok X G (c.t.d.fact 27 (f := .glo "_law_take") rfl), k__law_take := He.keep_ok (c.t.d.fact 28 (f := .keep "_law_take") rfl), g__law_any := He.glo_ok X G (c.t.d.fact 29 (f := .glo "_law_any") rfl), k__law_any := He.keep_ok (c.t.d.fact 30 (f := .keep "_law_any") rfl), f_list := He.free_ok X G (c.t.d.fact 31 (f := .free "list") rfl), g__law_bent := He.glo_ok X G (c.t.d.fact 32 (f := .glo "_law_bent") rfl), k__law_bent := He.keep_ok (c.t.d.fact 33 (f := .keep "_law_bent") rfl), g__law_whole := He.glo_ok X G (c.t.d.fact 34 (f := .glo "_law_whole") rfl), k__law_whole := He.keep_ok (c.t.d.fact 35 (f := .keep "_law_whole") rfl), g__law_among := He.glo_ok X G (c.t.d.fact 36 (f := .glo "_law_among") rfl), k__law_among := He.keep_ok (c.t.d.fact 37 (f := .keep "_law_among") rfl), g__law_are_kinds := He.glo_ok X G (c.t.d.fact 38 (f := .glo "_law_are_kinds") rfl), k__law_are_kinds := He.keep_ok (c.t.d.fact 39 (f := .keep "_law_are_kinds") rfl), g__law_is_layer := He.glo_ok X G (c.t.d.fact 40 (f := .glo "_law_is_layer") rfl), k__law_is_layer := He.keep_ok (c.t.d.fact 41 (f := .keep "_law_is_layer") rfl), g__law_some_kinds := He.glo_ok X G (c.t.d.fact 42 (f := .glo "_law_some_kinds") rfl), k__law_some_kinds := He.keep_ok (c.t.d.fact 43 (f := .keep "_law_some_kinds") rfl), g__law_layer := He.glo_ok X G (c.t.d.fact 44 (f := .glo "_law_layer") rfl), k__law_layer := He.keep_ok (c.t.d.fact 45 (f := .keep "_law_layer") rfl), f_abs := He.free_ok X G (c.t.d.fact 46 (f := .free "abs") rfl), g__law_bag := He.glo_ok X G (c.t.d.fact 47 (f := .glo "_law_bag") rfl), k__law_bag := He.keep_ok (c.t.d.fact 48 (f := .keep "_law_bag") rfl) }
  obtain ⟨fd_is_whole, D_is_whole⟩ := c.t.d.def_ 0 (d := d_is_whole) rfl
  obtain ⟨fd_is_number, D_is_number⟩ := c.t.d.def_ 1 (d := d_is_number) rfl
  obtain ⟨fd_are_arguments, D_are_arguments⟩ := c.t.d.def_ 2 (d := d_are_arguments) rfl
  obtain ⟨fd_are_kinds, D_are_kinds⟩ := c.t.d.def_ 3 (d := d_are_kinds) rfl
  obtain ⟨fd_is_item, D_is_item⟩ := c.t.d.def_ 4 (d := d_is_item) rfl
  obtain ⟨fd_is_layer, D_is_layer⟩ := c.t.d.def_ 5 (d := d_is_layer) rfl
  obtain ⟨fd__law_take, D__law_take⟩ := c.t.d.def_ 6 (d := d__law_take) rfl
  obtain ⟨fd__law_any, D__law_any⟩ := c.t.d.def_ 7 (d := d__law_any) rfl
  obtain ⟨fd__law_bent, D__law_bent⟩ := c.t.d.def_ 8 (d := d__law_bent) rfl
  obtain ⟨fd__law_whole, D__law_whole⟩ := c.t.d.def_ 9 (d := d__law_whole) rfl
  obtain ⟨fd__law_among, D__law_among⟩ := c.t.d.def_ 10 (d := d__law_among) rfl
  obtain ⟨fd__law_are_kinds, D__law_are_kinds⟩ := c.t.d.def_ 11 (d := d__law_are_kinds) rfl
  obtain ⟨fd__law_is_layer, D__law_is_layer⟩ := c.t.d.def_ 12 (d := d__law_is_layer) rfl
  obtain ⟨fd__law_some_kinds, D__law_some_kinds⟩ := c.t.d.def_ 13 (d := d__law_some_kinds) rfl
  obtain ⟨fd__law_layer, D__law_layer⟩ := c.t.d.def_ 14 (d := d__law_layer) rfl
  obtain ⟨fd__law_bag, D__law_bag⟩ := c.t.d.def_ 15 (d := d__law_bag) rfl
  obtain ⟨fd_law, D_law⟩ := c.t.d.def_ 16 (d := d_law) rfl
  refine ⟨fd_law, fun base _ _ => ?_⟩
  have K_is_whole := ok_is_whole (P := PySem.Challenge.rw_callayers_k01_layers_known.prog) (w := w) (base := base) T D_is_whole
  have K_is_number := ok_is_number (P := PySem.Challenge.rw_callayers_k01_layers_known.prog) (w := w) (base := base) T D_is_number K_is_whole (ab_is_whole_1 D_is_whole)
  have K_are_arguments := ok_are_arguments (P := PySem.Challenge.rw_callayers_k01_layers_known.prog) (w := w) (base := base) T D_are_arguments K_is_number (ab_is_number_2 D_is_number)
  have K_are_kinds := ok_are_kinds (P := PySem.Challenge.rw_callayers_k01_layers_known.prog) (w := w) (base := base) T D_are_kinds K_is_number (ab_is_number_2 D_is_number)
  have K_is_item := ok_is_item (P := PySem.Challenge.rw_callayers_k01_layers_known.prog) (w := w) (base := base) T D_is_item K_is_whole (ab_is_whole_1 D_is_whole) K_is_number (ab_is_number_2 D_is_number) K_are_arguments (ab_are_arguments_2 D_are_arguments) K_are_kinds (ab_are_kinds_2 D_are_kinds)
  have K_is_layer := ok_is_layer (P := PySem.Challenge.rw_callayers_k01_layers_known.prog) (w := w) (base := base) T D_is_layer K_is_item (ab_is_item_4 D_is_item)
  have K__law_take := ok__law_take (P := PySem.Challenge.rw_callayers_k01_layers_known.prog) (w := w) (base := base) T D__law_take
  have K__law_any := ok__law_any (P := PySem.Challenge.rw_callayers_k01_layers_known.prog) (w := w) (base := base) T D__law_any K__law_take (ab__law_take_2 D__law_take)
  have K__law_bent := ok__law_bent (P := PySem.Challenge.rw_callayers_k01_layers_known.prog) (w := w) (base := base) T D__law_bent K__law_take (ab__law_take_2 D__law_take) K__law_any (ab__law_any_1 D__law_any) (ab__law_bent_2 D__law_bent) 8
  have K__law_whole := ok__law_whole (P := PySem.Challenge.rw_callayers_k01_layers_known.prog) (w := w) (base := base) T D__law_whole
  have K__law_among := ok__law_among (P := PySem.Challenge.rw_callayers_k01_layers_known.prog) (w := w) (base := base) T D__law_among K__law_whole (ab__law_whole_1 D__law_whole)
  have K__law_are_kinds := ok__law_are_kinds (P := PySem.Challenge.rw_callayers_k01_layers_known.prog) (w := w) (base := base) T D__law_are_kinds K__law_among (ab__law_among_3 D__law_among)
  have K__law_is_layer := ok__law_is_layer (P := PySem.Challenge.rw_callayers_k01_layers_known.prog) (w := w) (base := base) T D__law_is_layer K__law_among (ab__law_among_3 D__law_among) K__law_are_kinds (ab__law_are_kinds_2 D__law_are_kinds)
  have K__law_some_kinds := ok__law_some_kinds (P := PySem.Challenge.rw_callayers_k01_layers_known.prog) (w := w) (base := base) T D__law_some_kinds K__law_take (ab__law_take_2 D__law_take)
  have K__law_layer := ok__law_layer (P := PySem.Challenge.rw_callayers_k01_layers_known.prog) (w := w) (base := base) T D__law_layer K__law_take (ab__law_take_2 D__law_take) K__law_some_kinds (ab__law_some_kinds_2 D__law_some_kinds)
  have K__law_bag := ok__law_bag (P := PySem.Challenge.rw_callayers_k01_layers_known.prog) (w := w) (base := base) T D__law_bag
  have K_law := ok_law (P := PySem.Challenge.rw_callayers_k01_layers_known.prog) (w := w) (base := base) T D_law K_is_layer (ab_is_layer_1 D_is_layer) K__law_any (ab__law_any_1 D__law_any) K__law_bent (ab__law_bent_2 D__law_bent) K__law_is_layer (ab__law_is_layer_3 D__law_is_layer) (ab_is_layer_1_arguments_kinds D_is_layer) K__law_layer (ab__law_layer_3 D__law_layer) K__law_take (ab__law_take_2 D__law_take) K__law_bag (ab__law_bag_2 D__law_bag)
  exact ⟨K_law, ab_law_1 D_law⟩
end LW
set_option Elab.async false
set_option linter.all false
set_option maxRecDepth 100000
set_option maxHeartbeats 0
open PySem PySem.W PySem.Calls PyProof.Rows
theorem PySem.Challenge.cw_callayers_k01_layers_known_holds : PySem.Challenge.rw_callayers_k01_layers_known.Holds := by
  w_on; o_law
  refine HandSHeadRun.head_any (r := OpenLaw.row PySem.Challenge.rw_callayers_k01_layers_known) (q := view (OpenLaw.row PySem.Challenge.rw_callayers_k01_layers_known).prog [22]) (H := LW.hk) (ob := LW.ob) (M := 30000) (loose := LW.nms) (d := HandSHeadRun.topDef (OpenLaw.row PySem.Challenge.rw_callayers_k01_layers_known).prog 22) (kwd := []) LW.ob_eq
    (by kernel_rfl) (fun s => by kernel_rfl) LW.run_ (by kernel_rfl) (by kernel_rfl) (by kernel_rfl) (by rfl) (by first | assumption | decide +kernel) (by decide +kernel) ⟨rfl, rfl, rfl, rfl, rfl, by decide +kernel⟩ ?hw ?hc
  case hw => w_witness2
  case hc =>
    refine Br.walkM (l := PySem.Challenge.rw_callayers_k01_layers_known) (n := 63) (k := 12) (x := "_law_script") (m := LW.m_law) rfl (by decide) (by kernel_rfl) ⟨rfl, by decide, by decide⟩ rfl ?F ?L
    case F =>
      intro w mg fa h Y G hmg0
      obtain ⟨K, KX, c⟩ := Y
      have hmg : mg ("law" : PySem.Str) = some (.ref fa) := by
        have e : (HandSHeadRun.topDef (OpenLaw.row PySem.Challenge.rw_callayers_k01_layers_known).prog 22).name = ("law" : PySem.Str) := by kernel_rfl
        rw [← e]
        exact hmg0
      obtain ⟨fd, hF⟩ := LW.facts KX G hmg c
      exact ⟨K, fd, KX, hF⟩
    case L => exact LW.plain
