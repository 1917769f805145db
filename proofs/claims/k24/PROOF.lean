import PyProof.Rows.All
import Wide.All
import OpenK.AllK
import Wide.FinOn
import HandS.ForMost
import HandS.Exc
import HandS.WordsExc
import HandS.Flow
import HandS.Star
import HandS.TupAny
import HandS.TupMul
import HandS.IsInst
import HandS.Conv
import HandS.Wide
import HandS.Defaults
import HandS.HeadHook1
import HandS.HeadHook2
import HandS.Small
import HandS.Style
import HandS.ExcCtx
import HandS.MakeKwOnly
import HandS.Comp
import HandS.AnyAll
import HandS.Deep
import HandS.RaiseMore
import HandS.ExcValue
import HandS.HeadHook3
import KE.KUnpackStar
import KE.GoesMore
import HandS.Zip
import KE.GoesEnumKw
import HandS.NoneIn
import HandS.HeadHook4
import HandS.Property
import HandS.ClsMeth
import HandS.CallLocal
import HandS.Dict
import HandS.Sort
import HandS.HeadNt
import PyProof.DictUpdate
import HandS.DictSub
import HandS.TryMany
import HandS.FStr
import HandS.SetKeys
import HandS.More
import HandS.Text
import HandS.StrMore
import KE.KIntText
import KE.KCallOwn
import HandS.ExcInit
import HandS.ExcInitHot
import HandS.ExcField
import HandS.Strs
import HandS.Hot
import HandS.HotCalls
import KE.KExcIs
import HandS.SetFor
import PyProof.ExcBaseAll.TypeError
import PyProof.ExcBaseAll.IndexError
import PyProof.ExcBaseAll.LookupError
import PyProof.ExcBaseAll.OverflowError
import PyProof.ExcBaseAll.RuntimeError
import HandS.ExcOwn
import HandS.Head0
import HandS.Head1
import HandS.Head2
import HandS.HeadEnd
import PyProof.P3Eq
import PySem.Challenge.RW_callayers_k24_errors_made
set_option Elab.async false
set_option linter.all false
set_option maxRecDepth 100000
set_option maxHeartbeats 4000000
section
namespace Br
open PySem PySem.Spec PyProof.Rows L2
/-! ### data, memory, results -/
/-- a value as plain data: tup, lst by value (lst: a list that nobody writes); ref: the n-th object of the memory; gl: what the module's name stands for; ty: a built-in class -/
inductive D where
  | non | bl (b : Bool) | int (i : Int) | str (x : Str) | tup (xs : List D) | lst (xs : List D) | ref (n : Nat) | gl (x : Str) | ty (t : String) | ptp (ds : List D) | adr (a dd : Addr) | exc (c f : Str) (ds : List D)
inductive MO where
  | lst (xs : List D) | dic (kvs : List (Key × D)) | ins (c : Str) (fs : List (Str × D))
abbrev Mem := List MO
structure Exn where
  cls : D
  fs : Option (List (Str × D))
inductive R (α : Type) where
  | ok (a : α) (M : Mem) | ex (e : Exn) (M : Mem) | no
def R.bind {α β : Type} (r : R α) (f : α → Mem → R β) : R β := match r with
  | .ok a M => f a M
  | .ex e M => .ex e M
  | .no => .no
abbrev En := List (Option D)
/-- an expression's meaning; several; a test's -/
abbrev FE := En → Mem → R D
abbrev FA := En → Mem → R (List D)
abbrev FT := En → Mem → R Bool
/-- a statement's meaning -/
inductive Fl where
  | nx | ret (d : D) | bk | ct
abbrev FS := En → Mem → R (Fl × En)
/-! ### how data stand in the heap -/
section
variable (K : PySem.W.Frag)
/-- a list that nobody writes any more -/
def SqF (H : Hp) (a : Addr) (xs : List V) : Prop := (∃ o, H a = some (.frz o (.lst xs))) ∨
  ∃ (o : Obj) (its : Array Value) (n : Nat), K.lookup a = some o ∧ o.cls = .type "list" ∧ o.dict = none ∧ o.data = .seq its n ∧ its.size ≤ sizeLine ∧ Vals xs its.toList
theorem SqF.seq {K : PySem.W.Frag} {H : Hp} {a : Addr} {xs : List V} (h : SqF K H a xs) : SqL K H a xs := h.elim (fun ⟨o, e⟩ => .inl (.inr ⟨o, e⟩)) .inr
mutual
def DV (μ : Nat → Addr) (N : Nat) (H : Hp) : D → V → Prop
  | .non, v => v = .non
  | .bl b, v => v = .bl b
  | .int i, v => v = .int i
  | .str x, v => v = .str x
  | .tup ds, v => ∃ a xs, v = .ref a ∧ SqT K H a xs ∧ DVs μ N H ds xs
  | .lst ds, v => ∃ a xs, v = .ref a ∧ SqF K H a xs ∧ DVs μ N H ds xs
  | .ref n, v => n < N ∧ v = .ref (μ n)
  | .gl x, v => v = .ref (He.ga K x)
  | .ty t, v => v = .ty t
  | .adr a dd, v => v = .ref a ∧ ∃ u, H dd = some u
  | .ptp ds, v => ∃ a xs o, v = .ref a ∧ H a = some (.frz o (.tup xs)) ∧ o.dict = none ∧ o.cls = .type "tuple" ∧ DVs μ N H ds xs
  | .exc c f ds, v => ∃ a oe u vs xs, v = .ref a ∧ H a = some (.frz oe u) ∧ oe.cls = .ref (He.ga K c) ∧ oe.data = .fields vs ∧ DVs μ N H ds xs ∧ ((xs = [] ∧ oe.dict = none) ∨ ∃ x dx od, xs = [x] ∧ oe.dict = some dx ∧ H dx = some (.frz od (.xd [(f, x)])))
def DVs (μ : Nat → Addr) (N : Nat) (H : Hp) : List D → List V → Prop
  | [], vs => vs = []
  | d :: ds, vs => ∃ v r, vs = v :: r ∧ DV μ N H d v ∧ DVs μ N H ds r
end
/-- tuples and locked things stand -/
structure Kp (H H' : Hp) : Prop where
  tup : ∀ b xs, H b = some (.tup xs) → H' b = some (.tup xs)
  frz : ∀ b o u, H b = some (.frz o u) → H' b = some (.frz o u)
  out : ∀ b, H' b = none → H b = none
structure Lift (μ : Nat → Addr) (N : Nat) (H : Hp) (μ' : Nat → Addr) (N' : Nat) (H' : Hp) : Prop where
  le : N ≤ N'
  same : ∀ n, n < N → μ' n = μ n
  kp : Kp H H'
  fr : ∀ b o, H b = some o → (∀ n, n < N → μ n ≠ b) → H' b = some o
  new : ∀ n, N ≤ n → n < N' → H (μ' n) = none
  dom : ∀ b, H' b = none → H b = none
end
theorem upd_out {H : Hp} {p b : Addr} {o : HO} (h : upd H p o b = none) : H b = none := by
  unfold upd at h
  split at h
  · cases h
  · exact h
theorem Kp.refl (H : Hp) : Kp H H := ⟨fun _ _ h => h, fun _ _ _ h => h, fun _ h => h⟩
theorem Kp.stays {H H' : Hp} (k : Kp H H') {b : Addr} (h : ∃ u, H b = some u) : ∃ u, H' b = some u := by
  cases e : H' b with
  | none => obtain ⟨u, hu⟩ := h; rw [k.out b e] at hu; cases hu
  | some u => exact ⟨u, rfl⟩
theorem Kp.trans {H H1 H2 : Hp} (a : Kp H H1) (b : Kp H1 H2) : Kp H H2 := ⟨fun c x h => b.tup c x (a.tup c x h), fun c o u h => b.frz c o u (a.frz c o u h), fun c h => a.out c (b.out c h)⟩
theorem Kp.fresh {H : Hp} {p : Addr} {o : HO} (h : H p = none) : Kp H (upd H p o) := ⟨fun b xs e => by rw [upd_ne (ne_of_none e h)]; exact e, fun b q u e => by rw [upd_ne (ne_of_none e h)]; exact e, fun _ h => upd_out h⟩
theorem Kp.lst {H : Hp} {p : Addr} {xs : List V} {o : HO} (h : H p = some (.lst xs)) : Kp H (upd H p o) :=
  ⟨fun b ys e => by rw [upd_ne (ne_of e h (by intro z; cases z))]; exact e, fun b q u e => by rw [upd_ne (ne_of e h (by intro z; cases z))]; exact e, fun _ h => upd_out h⟩
theorem Kp.ins {H : Hp} {p C dx : Addr} {fs : List (Str × V)} {o : HO} (h : H p = some (.ins C dx fs)) : Kp H (upd H p o) :=
  ⟨fun b ys e => by rw [upd_ne (ne_of e h (by intro z; cases z))]; exact e, fun b q u e => by rw [upd_ne (ne_of e h (by intro z; cases z))]; exact e, fun _ h => upd_out h⟩
theorem Kp.dK {H : Hp} {p : Addr} {kvs : List (Key × V)} {o : HO} (h : H p = some (.dK kvs)) : Kp H (upd H p o) :=
  ⟨fun b ys e => by rw [upd_ne (ne_of e h (by intro z; cases z))]; exact e, fun b q u e => by rw [upd_ne (ne_of e h (by intro z; cases z))]; exact e, fun _ h => upd_out h⟩
theorem Lift.refl (μ : Nat → Addr) (N : Nat) (H : Hp) : Lift μ N H μ N H := ⟨Nat.le_refl _, fun _ _ => rfl, Kp.refl H, fun _ _ h _ => h, fun n h h' => absurd h (Nat.not_le.mpr h'), fun _ h => h⟩
theorem Lift.trans {μ μ1 μ2 : Nat → Addr} {N N1 N2 : Nat} {H H1 H2 : Hp} (a : Lift μ N H μ1 N1 H1) (b : Lift μ1 N1 H1 μ2 N2 H2) : Lift μ N H μ2 N2 H2 := by
  refine ⟨Nat.le_trans a.le b.le, fun n h => (b.same n (Nat.lt_of_lt_of_le h a.le)).trans (a.same n h), a.kp.trans b.kp, fun c o h hn => ?_, fun n h h' => ?_, fun c h => a.dom c (b.dom c h)⟩
  · refine b.fr c o (a.fr c o h hn) fun n hl e => ?_
    by_cases q : n < N
    · rw [a.same n q] at e
      exact hn n q e
    · have z := a.new n (Nat.le_of_not_lt q) hl
      rw [e, h] at z
      cases z
  · by_cases q : n < N1
    · rw [b.same n q]
      exact a.new n h q
    · exact a.dom _ (b.new n (Nat.le_of_not_lt q) h')
theorem dom_upd {H : Hp} {p b : Addr} {o : HO} (h : upd H p o b = none) : H b = none := by
  unfold upd at h
  split at h
  · cases h
  · exact h
theorem fr_fresh {H : Hp} {p : Addr} {o : HO} (h : H p = none) (b : Addr) (u : HO) (e : H b = some u) : upd H p o b = some u := by rw [upd_ne (ne_of_none e h)]; exact e
section
variable {K : PySem.W.Frag} {μ μ' : Nat → Addr} {N N' : Nat} {H H' : Hp}
theorem Kp.sqT (k : Kp H H') {a : Addr} {xs : List V} (h : SqT K H a xs) : SqT K H' a xs := by
  rcases h with (h | ⟨o, h⟩) | h
  · exact .inl (.inl (k.tup _ _ h))
  · exact .inl (.inr ⟨o, k.frz _ _ _ h⟩)
  · exact .inr h
theorem Kp.sqF (k : Kp H H') {a : Addr} {xs : List V} (h : SqF K H a xs) : SqF K H' a xs := by
  rcases h with ⟨o, h⟩ | h
  · exact .inl ⟨o, k.frz _ _ _ h⟩
  · exact .inr h
mutual
theorem DV.lift (l : Lift μ N H μ' N' H') : ∀ (d : D) (v : V), DV K μ N H d v → DV K μ' N' H' d v
  | .non, v, h => by unfold DV at h ⊢; exact h
  | .bl b, v, h => by unfold DV at h ⊢; exact h
  | .int i, v, h => by unfold DV at h ⊢; exact h
  | .str x, v, h => by unfold DV at h ⊢; exact h
  | .tup ds, v, h => by
    unfold DV at h ⊢
    obtain ⟨a, xs, e, q, r⟩ := h
    exact ⟨a, xs, e, l.kp.sqT q, DVs.lift l ds xs r⟩
  | .lst ds, v, h => by
    unfold DV at h ⊢
    obtain ⟨a, xs, e, q, r⟩ := h
    exact ⟨a, xs, e, l.kp.sqF q, DVs.lift l ds xs r⟩
  | .ref n, v, h => by
    unfold DV at h ⊢
    exact ⟨Nat.lt_of_lt_of_le h.1 l.le, by rw [l.same n h.1]; exact h.2⟩
  | .gl x, v, h => by unfold DV at h ⊢; exact h
  | .ty t, v, h => by unfold DV at h ⊢; exact h
  | .adr t dd, v, h => by unfold DV at h ⊢; exact ⟨h.1, l.kp.stays h.2⟩
  | .ptp ds, v, h => by
    unfold DV at h ⊢
    obtain ⟨a, xs, o, e, q, c1, c2, r⟩ := h
    exact ⟨a, xs, o, e, l.kp.frz _ _ _ q, c1, c2, DVs.lift l ds xs r⟩
  | .exc c f ds, v, h => by
    unfold DV at h ⊢
    obtain ⟨a, oe, u, vs, xs, e, q, c1, c2, r, z⟩ := h
    exact ⟨a, oe, u, vs, xs, e, l.kp.frz _ _ _ q, c1, c2, DVs.lift l ds xs r, z.elim .inl fun ⟨x, dx, od, z1, z2, z3⟩ => .inr ⟨x, dx, od, z1, z2, l.kp.frz _ _ _ z3⟩⟩
theorem DVs.lift (l : Lift μ N H μ' N' H') : ∀ (ds : List D) (vs : List V), DVs K μ N H ds vs → DVs K μ' N' H' ds vs
  | [], vs, h => by unfold DVs at h ⊢; exact h
  | d :: ds, vs, h => by
    unfold DVs at h ⊢
    obtain ⟨v, r, e, h1, h2⟩ := h
    exact ⟨v, r, e, DV.lift l d v h1, DVs.lift l ds r h2⟩
end
theorem DVs.nil : DVs K μ N H [] [] := by unfold DVs; rfl
theorem DVs.cons {d : D} {v : V} {ds : List D} {vs : List V} (h : DV K μ N H d v) (t : DVs K μ N H ds vs) : DVs K μ N H (d :: ds) (v :: vs) := by
  unfold DVs; exact ⟨v, vs, rfl, h, t⟩
theorem DVs.length : ∀ {ds : List D} {vs : List V}, DVs K μ N H ds vs → vs.length = ds.length
  | [], vs, h => by unfold DVs at h; rw [h]; rfl
  | d :: ds, vs, h => by
    unfold DVs at h
    obtain ⟨v, r, e, h1, h2⟩ := h
    rw [e, List.length_cons, List.length_cons, DVs.length h2]
theorem DVs.append : ∀ {ds : List D} {vs : List V} {ds' : List D} {vs' : List V}, DVs K μ N H ds vs → DVs K μ N H ds' vs' → DVs K μ N H (ds ++ ds') (vs ++ vs')
  | [], vs, ds', vs', h, h' => by unfold DVs at h; rw [h]; exact h'
  | d :: ds, vs, ds', vs', h, h' => by
    unfold DVs at h
    obtain ⟨v, r, e, h1, h2⟩ := h
    rw [e]
    exact DVs.cons h1 (DVs.append h2 h')
theorem DVs.get : ∀ {ds : List D} {vs : List V} {i : Nat} {d : D}, DVs K μ N H ds vs → ds[i]? = some d → ∃ v, vs[i]? = some v ∧ DV K μ N H d v
  | [], vs, i, d, h, e => by simp at e
  | d0 :: ds, vs, 0, d, h, e => by
    unfold DVs at h
    obtain ⟨v, r, e1, h1, h2⟩ := h
    simp at e; subst e; subst e1
    exact ⟨v, rfl, h1⟩
  | d0 :: ds, vs, i + 1, d, h, e => by
    unfold DVs at h
    obtain ⟨v, r, e1, h1, h2⟩ := h
    subst e1
    exact DVs.get (i := i) h2 (by simpa using e)
theorem DVs.get' : ∀ {ds : List D} {vs : List V} {i : Nat} {v : V}, DVs K μ N H ds vs → vs[i]? = some v → ∃ d, ds[i]? = some d ∧ DV K μ N H d v
  | [], vs, i, d, h, e => by unfold DVs at h; subst h; simp at e
  | d0 :: ds, vs, 0, d, h, e => by
    unfold DVs at h
    obtain ⟨v, r, e1, h1, h2⟩ := h
    subst e1; simp at e; subst e
    exact ⟨d0, rfl, h1⟩
  | d0 :: ds, vs, i + 1, d, h, e => by
    unfold DVs at h
    obtain ⟨v, r, e1, h1, h2⟩ := h
    subst e1
    exact DVs.get' (i := i) h2 (by simpa using e)
theorem DVs.take : ∀ {ds : List D} {vs : List V} (n : Nat), DVs K μ N H ds vs → DVs K μ N H (ds.take n) (vs.take n)
  | _, _, 0, _ => by simpa using DVs.nil
  | [], vs, n + 1, h => by unfold DVs at h; subst h; simpa using DVs.nil
  | d :: ds, vs, n + 1, h => by
    unfold DVs at h
    obtain ⟨v, r, e, h1, h2⟩ := h
    subst e
    exact DVs.cons h1 (DVs.take n h2)
theorem DVs.drop : ∀ {ds : List D} {vs : List V} (n : Nat), DVs K μ N H ds vs → DVs K μ N H (ds.drop n) (vs.drop n)
  | _, _, 0, h => h
  | [], vs, n + 1, h => by unfold DVs at h; subst h; simpa using DVs.nil
  | d :: ds, vs, n + 1, h => by
    unfold DVs at h
    obtain ⟨v, r, e, h1, h2⟩ := h
    subst e
    exact DVs.drop n h2
theorem DVs.set {d : D} {v : V} (q : DV K μ N H d v) : ∀ {ds : List D} {vs : List V} (i : Nat), DVs K μ N H ds vs → DVs K μ N H (ds.set i d) (vs.set i v)
  | [], vs, i, h => by unfold DVs at h; subst h; simpa using DVs.nil
  | d0 :: ds, vs, 0, h => by
    unfold DVs at h
    obtain ⟨v0, r, e, h1, h2⟩ := h
    subst e
    exact DVs.cons q h2
  | d0 :: ds, vs, i + 1, h => by
    unfold DVs at h
    obtain ⟨v0, r, e, h1, h2⟩ := h
    subst e
    exact DVs.cons h1 (DVs.set q i h2)
theorem DVs.dropLast {ds : List D} {vs : List V} (h : DVs K μ N H ds vs) : DVs K μ N H ds.dropLast vs.dropLast := by
  rw [List.dropLast_eq_take, List.dropLast_eq_take, h.length]
  exact h.take _
theorem DVs.reverse : ∀ {ds : List D} {vs : List V}, DVs K μ N H ds vs → DVs K μ N H ds.reverse vs.reverse
  | [], vs, h => by unfold DVs at h; subst h; simpa using DVs.nil
  | d :: ds, vs, h => by
    unfold DVs at h
    obtain ⟨v, r, e, h1, h2⟩ := h
    subst e
    rw [List.reverse_cons, List.reverse_cons]
    exact DVs.append (DVs.reverse h2) (DVs.cons h1 DVs.nil)
theorem DVs.rep {ds : List D} {vs : List V} (h : DVs K μ N H ds vs) : ∀ n : Nat, DVs K μ N H (List.replicate n ds).flatten (List.replicate n vs).flatten
  | 0 => by simpa using DVs.nil
  | n + 1 => by
    rw [List.replicate_succ, List.replicate_succ, List.flatten_cons, List.flatten_cons]
    exact DVs.append h (DVs.rep h n)
theorem DVs.ints : ∀ {ns : List Int} {vs : List V}, DVs K μ N H (ns.map D.int) vs → vs = ns.map V.int
  | [], vs, h => by simp only [List.map_nil] at h ⊢; unfold DVs at h; exact h
  | n :: ns, vs, h => by
    rw [List.map_cons] at h ⊢
    unfold DVs at h
    obtain ⟨v, r, e, h1, h2⟩ := h
    unfold DV at h1
    rw [e, h1, DVs.ints h2]
theorem DVs.of_ints : ∀ (ns : List Int), DVs K μ N H (ns.map D.int) (ns.map V.int)
  | [] => DVs.nil
  | n :: ns => by rw [List.map_cons, List.map_cons]; exact DVs.cons (by unfold DV; rfl) (DVs.of_ints ns)
theorem DVs.bls : ∀ {ns : List Bool} {vs : List V}, DVs K μ N H (ns.map D.bl) vs → vs = ns.map V.bl
  | [], vs, h => by simp only [List.map_nil] at h ⊢; unfold DVs at h; exact h
  | n :: ns, vs, h => by
    rw [List.map_cons] at h ⊢
    unfold DVs at h
    obtain ⟨v, r, e, h1, h2⟩ := h
    unfold DV at h1
    rw [e, h1, DVs.bls h2]
theorem DVs.strs : ∀ {ns : List Str} {vs : List V}, DVs K μ N H (ns.map D.str) vs → vs = ns.map V.str
  | [], vs, h => by simp only [List.map_nil] at h ⊢; unfold DVs at h; exact h
  | n :: ns, vs, h => by
    rw [List.map_cons] at h ⊢
    unfold DVs at h
    obtain ⟨v, r, e, h1, h2⟩ := h
    unfold DV at h1
    rw [e, h1, DVs.strs h2]
theorem DVs.of_strs : ∀ (ns : List Str), DVs K μ N H (ns.map D.str) (ns.map V.str)
  | [] => DVs.nil
  | n :: ns => by rw [List.map_cons, List.map_cons]; exact DVs.cons (by unfold DV; rfl) (DVs.of_strs ns)
theorem DVs.inv_cons {d : D} {ds : List D} {vs : List V} (h : DVs K μ N H (d :: ds) vs) : ∃ v r, vs = v :: r ∧ DV K μ N H d v ∧ DVs K μ N H ds r := by unfold DVs at h; exact h
theorem DVs.inv_nil {vs : List V} (h : DVs K μ N H [] vs) : vs = [] := by unfold DVs at h; exact h
end
/-! ### the memory -/
section
variable (K : PySem.W.Frag)
/-- fields -/
def FV (μ : Nat → Addr) (N : Nat) (H : Hp) : List (Str × D) → List (Str × V) → Prop
  | [], fs => fs = []
  | p :: ps, fs => ∃ v r, fs = (p.1, v) :: r ∧ DV K μ N H p.2 v ∧ FV μ N H ps r
def KVs (μ : Nat → Addr) (N : Nat) (H : Hp) : List (Key × D) → List (Key × V) → Prop
  | [], fs => fs = []
  | p :: ps, fs => ∃ v r, fs = (p.1, v) :: r ∧ DV K μ N H p.2 v ∧ KVs μ N H ps r
def OV (μ : Nat → Addr) (N : Nat) (H : Hp) (a : Addr) : MO → Prop
  | .lst ds => ∃ xs, H a = some (.lst xs) ∧ DVs K μ N H ds xs
  | .dic kvs => ∃ ps, H a = some (.dK ps) ∧ KVs K μ N H kvs ps
  | .ins c fs => ∃ dx gs, H a = some (.ins (He.ga K c) dx gs) ∧ FV K μ N H fs gs
structure Rel (μ : Nat → Addr) (M : Mem) (H : Hp) : Prop where
  obj : ∀ n o, M[n]? = some o → OV K μ M.length H (μ n) o
  inj : ∀ i j, i < M.length → j < M.length → μ i = μ j → i = j
/-- the names' values -/
structure EV (μ : Nat → Addr) (N : Nat) (H : Hp) (ρ : En) (σ : L2.St) : Prop where
  len : σ.length = ρ.length
  at_ : ∀ (i : Nat) d, ρ[i]? = some (some d) → ∃ v, σ[i]? = some (some v) ∧ DV K μ N H d v
/-- an exception -/
def XV (μ : Nat → Addr) (N : Nat) (H : Hp) (e : Exn) (cls : Value) (dd : Option Addr) : Prop :=
  (match e.cls with
    | .gl x => cls = .ref (He.ga K x)
    | .ty t => cls = .type t
    | _ => False) ∧
  (match e.fs with
    | none => dd = none
    | some fs => ∃ a gs, dd = some a ∧ H a = some (.xd gs) ∧ FV K μ N H fs gs)
end
section
variable {K : PySem.W.Frag} {μ μ' : Nat → Addr} {N N' : Nat} {H H' : Hp}
theorem FV.lift (l : Lift μ N H μ' N' H') : ∀ {ps : List (Str × D)} {fs : List (Str × V)}, FV K μ N H ps fs → FV K μ' N' H' ps fs
  | [], fs, h => h
  | p :: ps, fs, h => let ⟨v, r, e, h1, h2⟩ := h; ⟨v, r, e, h1.lift l, FV.lift l h2⟩
theorem KVs.lift (l : Lift μ N H μ' N' H') : ∀ {ps : List (Key × D)} {fs : List (Key × V)}, KVs K μ N H ps fs → KVs K μ' N' H' ps fs
  | [], fs, h => h
  | p :: ps, fs, h => let ⟨v, r, e, h1, h2⟩ := h; ⟨v, r, e, h1.lift l, KVs.lift l h2⟩
theorem EV.lift (l : Lift μ N H μ' N' H') {ρ : En} {σ : L2.St} (h : EV K μ N H ρ σ) : EV K μ' N' H' ρ σ :=
  ⟨h.len, fun i d e => let ⟨v, e1, e2⟩ := h.at_ i d e; ⟨v, e1, e2.lift l⟩⟩
theorem EV.set {ρ : En} {σ : L2.St} (h : EV K μ N H ρ σ) {d : D} {v : V} (q : DV K μ N H d v) (i : Nat) : EV K μ N H (ρ.set i (some d)) (σ.set i (some v)) := by
  refine ⟨by rw [List.length_set, List.length_set]; exact h.len, fun j e hj => ?_⟩
  by_cases hij : i = j
  · subst hij
    have hl : i < ρ.length := by
      have := (List.getElem?_eq_some_iff.mp hj).1
      simpa using this
    rw [List.getElem?_set_self hl] at hj
    cases hj
    exact ⟨v, List.getElem?_set_self (by rw [h.len]; exact hl), q⟩
  · rw [List.getElem?_set_ne hij] at hj
    obtain ⟨w, e1, e2⟩ := h.at_ j e hj
    exact ⟨w, by rw [List.getElem?_set_ne hij]; exact e1, e2⟩
theorem OV.lift {a : Addr} {o : MO} (l : Lift μ N H μ' N' H') (e : ∀ u, H a = some u → H' a = some u) (h : OV K μ N H a o) : OV K μ' N' H' a o := by
  cases o with
  | lst ds => obtain ⟨xs, h1, h2⟩ := h; exact ⟨xs, e _ h1, h2.lift l⟩
  | dic kvs => obtain ⟨xs, h1, h2⟩ := h; exact ⟨xs, e _ h1, h2.lift l⟩
  | ins c fs => obtain ⟨dx, xs, h1, h2⟩ := h; exact ⟨dx, xs, e _ h1, h2.lift l⟩
theorem OV.some {a : Addr} {o : MO} (h : OV K μ N H a o) : ∃ u, H a = some u ∧ (∀ q, u ≠ .tup q) ∧ ∀ q r, u ≠ .frz q r := by
  cases o with
  | lst ds => obtain ⟨xs, h1, h2⟩ := h; exact ⟨_, h1, (fun _ z => nomatch z), (fun _ _ z => nomatch z)⟩
  | dic kvs => obtain ⟨xs, h1, h2⟩ := h; exact ⟨_, h1, (fun _ z => nomatch z), (fun _ _ z => nomatch z)⟩
  | ins c fs => obtain ⟨dx, xs, h1, h2⟩ := h; exact ⟨_, h1, (fun _ z => nomatch z), (fun _ _ z => nomatch z)⟩
theorem Rel.some {M : Mem} (r : Rel K μ M H) {n : Nat} (hn : n < M.length) : ∃ u, H (μ n) = some u ∧ (∀ q, u ≠ .tup q) ∧ ∀ q s, u ≠ .frz q s := (r.obj n M[n] (by simp [hn])).some
theorem Rel.ne {M : Mem} (r : Rel K μ M H) {n : Nat} (hn : n < M.length) {p : Addr} (h : H p = none) : μ n ≠ p := by
  obtain ⟨u, e, _⟩ := r.some hn
  exact ne_of_none e h
theorem Lift.fresh {N : Nat} {p : Addr} {o : HO} (h : H p = none) : Lift μ N H μ N (upd H p o) :=
  ⟨Nat.le_refl _, fun _ _ => rfl, Kp.fresh h, fun b u e _ => fr_fresh h b u e, fun n h h' => absurd h (Nat.not_le.mpr h'), fun b e => dom_upd e⟩
theorem Rel.fresh {M : Mem} (r : Rel K μ M H) {p : Addr} {o : HO} (h : H p = none) : Rel K μ M (upd H p o) :=
  ⟨fun n o' e => (r.obj n o' e).lift (Lift.fresh h) fun u q => by rw [upd_ne (ne_of_none q h)]; exact q, r.inj⟩
def ext (μ : Nat → Addr) (N : Nat) (p : Addr) : Nat → Addr := fun n => if n = N then p else μ n
theorem Lift.alloc {M : Mem} {p : Addr} {o : HO} {m : MO} (h : H p = none) : Lift μ M.length H (ext μ M.length p) (M ++ [m]).length (upd H p o) :=
  ⟨by simp, fun n hn => if_neg (Nat.ne_of_lt hn), Kp.fresh h, fun b u e _ => fr_fresh h b u e, fun n h1 h2 => (by
    rw [List.length_append, List.length_singleton] at h2
    have e : n = M.length := by omega
    unfold ext
    rw [if_pos e]
    exact h), fun b e => dom_upd e⟩
theorem Rel.alloc {M : Mem} (r : Rel K μ M H) {p : Addr} {o : HO} {m : MO} (h : H p = none) (new : OV K (ext μ M.length p) (M ++ [m]).length (upd H p o) p m) : Rel K (ext μ M.length p) (M ++ [m]) (upd H p o) := by
  refine ⟨fun n o' e => ?_, fun i j hi hj e => ?_⟩
  · by_cases hn : n < M.length
    · rw [List.getElem?_append_left hn] at e
      have q := (r.obj n o' e).lift (Lift.alloc (o := o) (m := m) h) (fun u z => by rw [upd_ne (ne_of_none z h)]; exact z)
      have e2 : ext μ M.length p n = μ n := if_neg (Nat.ne_of_lt hn)
      rw [e2]; exact q
    · have hl := (List.getElem?_eq_some_iff.mp e).1
      rw [List.length_append, List.length_singleton] at hl
      have hn' : n = M.length := by omega
      subst hn'
      rw [List.getElem?_append_right (Nat.le_refl _), Nat.sub_self] at e
      have e1 : m = o' := Option.some.inj e
      subst e1
      have e2 : ext μ M.length p M.length = p := if_pos rfl
      rw [e2]; exact new
  · rw [List.length_append, List.length_singleton] at hi hj
    unfold ext at e
    by_cases h1 : i = M.length
    · by_cases h2 : j = M.length
      · omega
      · rw [if_pos h1, if_neg h2] at e
        exact absurd e.symm (r.ne (by omega) h)
    · by_cases h2 : j = M.length
      · rw [if_neg h1, if_pos h2] at e
        exact absurd e (r.ne (by omega) h)
      · rw [if_neg h1, if_neg h2] at e
        exact r.inj i j (by omega) (by omega) e
theorem Rel.put {M : Mem} (r : Rel K μ M H) {n : Nat} (hn : n < M.length) {o : HO} {m : MO} (new : OV K μ M.length (upd H (μ n) o) (μ n) m) : Rel K μ (M.set n m) (upd H (μ n) o) ∧ Lift μ M.length H μ (M.set n m).length (upd H (μ n) o) := by
  have l : Lift μ M.length H μ M.length (upd H (μ n) o) := ⟨Nat.le_refl _, fun _ _ => rfl, ⟨fun b xs e => by
      obtain ⟨u, hu, h1, h2⟩ := r.some hn
      rw [upd_ne (ne_of e hu (fun z => h1 xs z.symm))]; exact e, fun b q s e => by
      obtain ⟨u, hu, h1, h2⟩ := r.some hn
      rw [upd_ne (ne_of e hu (fun z => h2 q s z.symm))]; exact e, fun _ h => upd_out h⟩, fun b u e hne => by rw [upd_ne (fun z => hne n hn z.symm)]; exact e, fun n h h' => absurd h (Nat.not_le.mpr h'), fun b e => dom_upd e⟩
  refine ⟨⟨fun i o' e => ?_, fun i j hi hj e => r.inj i j (by simpa using hi) (by simpa using hj) e⟩, by rw [List.length_set]; exact l⟩
  rw [List.length_set]
  by_cases hi : n = i
  · subst hi
    rw [List.getElem?_set_self hn] at e
    cases e
    exact new
  · rw [List.getElem?_set_ne hi] at e
    have hil := (List.getElem?_eq_some_iff.mp e).1
    refine (r.obj i o' e).lift l fun u z => ?_
    rw [upd_ne (fun q => hi (r.inj n i hn hil q.symm))]
    exact z
end
/-! ### meanings -/
section
variable (K : PySem.W.Frag)
/-- what is wanted of a result -/
def Ans {α β : Type} (rel : (Nat → Addr) → Nat → Hp → α → β → Prop) (W : Value → Option Addr → Hp → Prop) (μ : Nat → Addr) (N : Nat) (H : Hp) (r : R α) (Q : β → Hp → Prop) : Prop := match r with
  | .ok d M' => ∀ μ' H' v, Lift μ N H μ' M'.length H' → Rel K μ' M' H' → rel μ' M'.length H' d v → Q v H'
  | .ex e M' => ∀ μ' H' cls dd, Lift μ N H μ' M'.length H' → Rel K μ' M' H' → XV K μ' M'.length H' e cls dd → W cls dd H'
  | .no => False
def tM {α β : Type} (rel : (Nat → Addr) → Nat → Hp → α → β → Prop) (W : WX) (f : En → Mem → R α) : L2.St → Hp → (β → Hp → Prop) → Prop := fun σ H Q =>
  ∃ μ M ρ, Rel K μ M H ∧ EV K μ M.length H ρ σ ∧ Ans K rel (fun c d H' => W c d σ H') μ M.length H (f ρ M) Q
end
section
variable {K : PySem.W.Frag} {α β γ δ : Type} {rel : (Nat → Addr) → Nat → Hp → α → β → Prop} {rel2 : (Nat → Addr) → Nat → Hp → γ → δ → Prop} {W : Value → Option Addr → Hp → Prop} {μ μ1 : Nat → Addr} {N N1 : Nat} {H H1 : Hp}
theorem Ans.rebase {r : R α} {Q : β → Hp → Prop} (l : Lift μ N H μ1 N1 H1) (h : Ans K rel W μ N H r Q) : Ans K rel W μ1 N1 H1 r Q := by
  cases r with
  | ok d M => exact fun μ' H' v l' r' q => h μ' H' v (l.trans l') r' q
  | ex e M => exact fun μ' H' c d l' r' q => h μ' H' c d (l.trans l') r' q
  | no => exact h
theorem Ans.mono {r : R α} {Q Q' : β → Hp → Prop} {W' : Value → Option Addr → Hp → Prop} (hQ : ∀ v H', Q v H' → Q' v H') (hW : ∀ c d H', W c d H' → W' c d H') (h : Ans K rel W μ N H r Q) : Ans K rel W' μ N H r Q' := by
  cases r with
  | ok d M => exact fun μ' H' v l' r' q => hQ _ _ (h μ' H' v l' r' q)
  | ex e M => exact fun μ' H' c d l' r' q => hW _ _ _ (h μ' H' c d l' r' q)
  | no => exact h
theorem Ans.bind {r : R α} {g : α → Mem → R γ} {Q : δ → Hp → Prop} (h : Ans K rel2 W μ N H (r.bind g) Q) :
    Ans K rel W μ N H r (fun v H1 => ∃ μ1 M1 d, Lift μ N H μ1 M1.length H1 ∧ Rel K μ1 M1 H1 ∧ rel μ1 M1.length H1 d v ∧ Ans K rel2 W μ1 M1.length H1 (g d M1) Q) := by
  cases r with
  | ok d M => exact fun μ' H' v l' r' q => ⟨μ', M, d, l', r', q, Ans.rebase l' h⟩
  | ex e M => exact h
  | no => exact h
end
end Br
end
section
namespace Br
open PySem PySem.Spec PyProof.Rows L2
theorem PE.weak {X : Cx} {e : Expr} {t t' : TE} (h : PE X e t) (w : ∀ σ H Q, t' σ H Q → t σ H Q) : PE X e t' := ⟨fun pins s σ H Q I hw => h.run pins s σ H Q I (w σ H Q hw)⟩
theorem PT.weak {X : Cx} {e : Expr} {t t' : TT} (h : PT X e t) (w : ∀ σ H Q, t' σ H Q → t σ H Q) : PT X e t' := ⟨fun pins s σ H Q I hw => h.run pins s σ H Q I (w σ H Q hw)⟩
theorem PA.weak {X : Cx} {e : List Expr} {t t' : TA} (h : PA X e t) (w : ∀ σ H Q, t' σ H Q → t σ H Q) : PA X e t' := ⟨fun p pins s σ H Q I hw => h.run p pins s σ H Q I (w σ H Q hw)⟩
theorem PS.weak {X : Cx} {e : Stmt} {t t' : TS} (h : PS X e t) (w : ∀ D σ H, t' D σ H → t D σ H) : PS X e t' := ⟨fun pins s σ H D I hw => h.run pins s σ H D I (w D σ H hw)⟩
theorem PSs.weak {X : Cx} {e : List Stmt} {t t' : TS} (h : PSs X e t) (w : ∀ D σ H, t' D σ H → t D σ H) : PSs X e t' := ⟨fun pins s σ H D I hw => h.run pins s σ H D I (w D σ H hw)⟩
/-- bools as they are -/
def BV (μ : Nat → Addr) (N : Nat) (H : Hp) (a b : Bool) : Prop := a = b
/-- an expression means f (W: the wish of an exception) -/
def ME (X : Cx) (W : WX) (e : Expr) (f : FE) : Prop := PE X e (tM X.K (DV X.K) W f)
def MA (X : Cx) (W : WX) (es : List Expr) (f : FA) : Prop := PA X es (tM X.K (DVs X.K) W f)
def MT (X : Cx) (W : WX) (e : Expr) (f : FT) : Prop := PT X e (tM X.K BV W f)
section
variable {K : PySem.W.Frag} {α β γ δ : Type} {rel : (Nat → Addr) → Nat → Hp → α → β → Prop} {rel2 : (Nat → Addr) → Nat → Hp → γ → δ → Prop} {W : WX} {σ : L2.St} {H : Hp}
theorem tM.seq {f : En → Mem → R α} {g : En → α → Mem → R γ} {Q : δ → Hp → Prop} (h : tM K rel2 W (fun ρ M => (f ρ M).bind (g ρ)) σ H Q) :
    tM K rel W f σ H (fun v H1 => ∃ μ M ρ d, Rel K μ M H1 ∧ EV K μ M.length H1 ρ σ ∧ rel μ M.length H1 d v ∧ Ans K rel2 (fun c d H' => W c d σ H') μ M.length H1 (g ρ d M) Q) := by
  obtain ⟨μ, M, ρ, r, e, a⟩ := h
  refine ⟨μ, M, ρ, r, e, ?_⟩
  refine Ans.mono (fun v H1 ⟨μ1, M1, d, l, r1, q, a1⟩ => ⟨μ1, M1, ρ, d, r1, e.lift l, q, a1⟩) (fun _ _ _ z => z) (Ans.bind (rel := rel) a)
theorem tM.mono {f : En → Mem → R α} {Q Q' : β → Hp → Prop} (hQ : ∀ v H', Q v H' → Q' v H') (h : tM K rel W f σ H Q) : tM K rel W f σ H Q' := by
  obtain ⟨μ, M, ρ, r, e, a⟩ := h
  exact ⟨μ, M, ρ, r, e, a.mono hQ fun _ _ _ z => z⟩
end
/-- a two-place operation by data -/
abbrev F2 := D → D → Mem → R D
abbrev F1 := D → Mem → R D
abbrev FL := List D → Mem → R D
abbrev W0 := Value → Option Addr → Hp → Prop
def r2 (K : PySem.W.Frag) (W : W0) (g : F2) : R2 := fun x y H Q => ∃ μ M a b, Rel K μ M H ∧ DV K μ M.length H a x ∧ DV K μ M.length H b y ∧ Ans K (DV K) W μ M.length H (g a b M) Q
def r1 (K : PySem.W.Frag) (W : W0) (g : F1) : V → Hp → VK → Prop := fun x H Q => ∃ μ M a, Rel K μ M H ∧ DV K μ M.length H a x ∧ Ans K (DV K) W μ M.length H (g a M) Q
def rL (K : PySem.W.Frag) (W : W0) (g : FL) : List V → Hp → VK → Prop := fun xs H Q => ∃ μ M as, Rel K μ M H ∧ DVs K μ M.length H as xs ∧ Ans K (DV K) W μ M.length H (g as M) Q
def rM (K : PySem.W.Frag) (W : W0) (g : D → FL) : V → List V → Hp → VK → Prop := fun x xs H Q => ∃ μ M a as, Rel K μ M H ∧ DV K μ M.length H a x ∧ DVs K μ M.length H as xs ∧ Ans K (DV K) W μ M.length H (g a as M) Q
def OpM (X : Cx) (f : Value → Value → Sem Value) (g : F2) : Prop := ∀ W, OpR X f (r2 X.K W g)
def UnM (X : Cx) (f : Value → Sem Value) (g : F1) : Prop := ∀ W, UnR X f (r1 X.K W g)
def CallM (X : Cx) (f : Value) (g : FL) : Prop := ∀ W, CallR X f (rL X.K W g)
def MtM (X : Cx) (id : String) (g : D → FL) : Prop := ∀ W, MtR X id (rM X.K W g)
def IxM (X : Cx) (g : F2) : Prop := ∀ W, IxR X (r2 X.K W g)
/-! ### combinators -/
def eV (i : Nat) : FE := fun ρ M => match ρ[i]? with
  | some (some d) => .ok d M
  | _ => .no
def eC (d : D) : FE := fun _ M => .ok d M
def e1 (g : F1) (a : FE) : FE := fun ρ M => (a ρ M).bind g
def e2 (g : F2) (a b : FE) : FE := fun ρ M => (a ρ M).bind fun x M1 => (b ρ M1).bind fun y M2 => g x y M2
def eL (g : FL) (a : FA) : FE := fun ρ M => (a ρ M).bind g
def eM (g : D → FL) (a : FE) (as : FA) : FE := fun ρ M => (a ρ M).bind fun x M1 => (as ρ M1).bind fun xs M2 => g x xs M2
def aN : FA := fun _ M => .ok [] M
def aC (a : FE) (r : FA) : FA := fun ρ M => (a ρ M).bind fun x M1 => (r ρ M1).bind fun xs M2 => .ok (x :: xs) M2
section
variable {X : Cx} {W : WX} {e a b : Expr} {es : List Expr} {f fa fb : FE} {g : FA} {pos : Pos}
theorem me_v (i : Nat) {x : Str} (hN : X.N[i]? = some x := by rfl) (hv : Vis X.env.scope x := by first | exact Or.inl rfl | exact Or.inr (Or.inl rfl) | exact Or.inr (Or.inr rfl)) (hd : (x == ("__debug__" : Str)) = false := by decide)
    (hcd : (x == ("__classdict__" : Str)) = false := by decide) : ME X W (.Name x pos) (eV i) := by
  refine PE.weak (pe_var hN hv hd hcd) fun σ H Q ⟨μ, M, ρ, r, e, q⟩ => ?_
  unfold eV at q
  cases h : ρ[i]? with
  | none => rw [h] at q; exact q.elim
  | some o =>
    cases o with
    | none => rw [h] at q; exact q.elim
    | some d =>
      rw [h] at q
      obtain ⟨v, h1, h2⟩ := e.at_ i d h
      exact ⟨v, h1, q μ H v (Lift.refl ..) r h2⟩
theorem me_int {i : Int} {j : Nat} : ME X W (.Constant (.int i) j pos) (eC (.int i)) :=
  PE.weak pe_int fun σ H Q ⟨μ, M, ρ, r, e, q⟩ => q μ H _ (Lift.refl ..) r (by unfold DV; rfl)
theorem me_bl {i : Bool} {j : Nat} : ME X W (.Constant (.bool i) j pos) (eC (.bl i)) :=
  PE.weak pe_bl fun σ H Q ⟨μ, M, ρ, r, e, q⟩ => q μ H _ (Lift.refl ..) r (by unfold DV; rfl)
theorem me_non {j : Nat} : ME X W (.Constant .none j pos) (eC .non) :=
  PE.weak pe_non fun σ H Q ⟨μ, M, ρ, r, e, q⟩ => q μ H _ (Lift.refl ..) r (by unfold DV; rfl)
theorem me_str {x : Str} {j : Nat} : ME X W (.Constant (.str x) j pos) (eC (.str x)) :=
  PE.weak pe_str fun σ H Q ⟨μ, M, ρ, r, e, q⟩ => q μ H _ (Lift.refl ..) r (by unfold DV; rfl)
theorem me_gstr {x z : Str} (hg : Gl X x) (hm : ∃ t, X.mg x = some (.str z t)) (hd : (x == ("__debug__" : Str)) = false := by decide) : ME X W (.Name x pos) (eC (.str z)) := by
  obtain ⟨t, hm⟩ := hm
  exact PE.weak (pe_glob hg hm (v := .str z) ⟨t, rfl⟩ hd) fun σ H Q ⟨μ, M, ρ, r, e, q⟩ => q μ H _ (Lift.refl ..) r (by unfold DV; rfl)
theorem me_gint {x : Str} {z : Int} (hg : Gl X x) (hm : ∃ t, X.mg x = some (.int z t)) (hd : (x == ("__debug__" : Str)) = false := by decide) : ME X W (.Name x pos) (eC (.int z)) := by
  obtain ⟨t, hm⟩ := hm
  exact PE.weak (pe_glob hg hm (v := .int z) ⟨t, rfl⟩ hd) fun σ H Q ⟨μ, M, ρ, r, e, q⟩ => q μ H _ (Lift.refl ..) r (by unfold DV; rfl)
theorem me_gl {x : Str} (hg : Gl X x) (hm : X.mg x = some (.ref (He.ga X.K x))) (hd : (x == ("__debug__" : Str)) = false := by decide) : ME X W (.Name x pos) (eC (.gl x)) :=
  PE.weak (pe_glob hg hm (v := .ref (He.ga X.K x)) rfl hd) fun σ H Q ⟨μ, M, ρ, r, e, q⟩ => q μ H _ (Lift.refl ..) r (by unfold DV; rfl)
theorem me_ty {x : Str} {T : String} (hg : Gl X x) (hm : X.mg x = none) (hv : bootBuiltins x = some (.type T)) (hn : x ≠ "__name__" := by decide) (hd : (x == ("__debug__" : Str)) = false := by decide) : ME X W (.Name x pos) (eC (.ty T)) :=
  PE.weak (pe_bltn hg hm hv (v := .ty T) rfl hn hd) fun σ H Q ⟨μ, M, ρ, r, e, q⟩ => q μ H _ (Lift.refl ..) r (by unfold DV; rfl)
theorem me_gtup {x : Str} {ds : List D} (hg : Gl X x) (hm : X.mg x = some (.ref (He.ga X.K x))) (ht : ∀ (μ : Nat → Addr) (N : Nat) (H : Hp), ∃ vs, SqT X.K H (He.ga X.K x) vs ∧ DVs X.K μ N H ds vs) (hd : (x == ("__debug__" : Str)) = false := by decide) :
    ME X W (.Name x pos) (eC (.tup ds)) :=
  PE.weak (pe_glob hg hm (v := .ref (He.ga X.K x)) rfl hd) fun σ H Q ⟨μ, M, ρ, r, e, q⟩ => q μ H _ (Lift.refl ..) r (by
    obtain ⟨vs, h1, h2⟩ := ht μ M.length H
    unfold DV; exact ⟨_, vs, rfl, h1, h2⟩)
theorem me_op {op : Operator} {g : F2} (ho : OpM X (binaryOp op) g) (ha : ME X W a fa) (hb : ME X W b fb) : ME X W (.BinOp a op b pos) (e2 g fa fb) := by
  refine ⟨fun pins s σ H Q I h => ?_⟩
  refine (pe_op (ho (fun c d H' => W c d σ H')) ha hb).run pins s σ H Q I ?_
  refine tM.mono (fun v H1 ⟨μ, M, ρ, d, r, e, q, a1⟩ => ?_) (tM.seq (rel := DV X.K) h)
  have a2 := Ans.bind (rel := DV X.K) a1
  refine ⟨μ, M, ρ, r, e, a2.mono (fun u H2 ⟨μ1, M1, d1, l, r1, q1, a3⟩ => ⟨μ1, M1, d, d1, r1, q.lift l, q1, a3⟩) fun _ _ _ z => z⟩
theorem me_cmp {op : CmpOp} {g : F2} (ho : OpM X (compareOp op) g) (ha : ME X W a fa) (hb : ME X W b fb) (hm : behindInMarks op b = false) : ME X W (.Compare a [op] [b] pos) (e2 g fa fb) := by
  refine ⟨fun pins s σ H Q I h => ?_⟩
  refine (pe_cmpR (ho (fun c d H' => W c d σ H')) ha hb hm).run pins s σ H Q I ?_
  refine tM.mono (fun v H1 ⟨μ, M, ρ, d, r, e, q, a1⟩ => ?_) (tM.seq (rel := DV X.K) h)
  have a2 := Ans.bind (rel := DV X.K) a1
  refine ⟨μ, M, ρ, r, e, a2.mono (fun u H2 ⟨μ1, M1, d1, l, r1, q1, a3⟩ => ⟨μ1, M1, d, d1, r1, q.lift l, q1, a3⟩) fun _ _ _ z => z⟩
theorem me_ix {g : F2} (ho : IxM X g) (ha : ME X W a fa) (hb : ME X W b fb) (hs : PlainIx b) : ME X W (.Subscript a b pos) (e2 g fa fb) := by
  refine ⟨fun pins s σ H Q I h => ?_⟩
  refine (pe_ix (ho (fun c d H' => W c d σ H')) ha hb hs).run pins s σ H Q I ?_
  refine tM.mono (fun v H1 ⟨μ, M, ρ, d, r, e, q, a1⟩ => ?_) (tM.seq (rel := DV X.K) h)
  have a2 := Ans.bind (rel := DV X.K) a1
  refine ⟨μ, M, ρ, r, e, a2.mono (fun u H2 ⟨μ1, M1, d1, l, r1, q1, a3⟩ => ⟨μ1, M1, d, d1, r1, q.lift l, q1, a3⟩) fun _ _ _ z => z⟩
theorem me_un {op : UnaryOp} {g : F1} (ho : UnM X (unaryOp op) g) (ha : ME X W a fa) : ME X W (.UnaryOp op a pos) (e1 g fa) := by
  refine ⟨fun pins s σ H Q I h => ?_⟩
  refine (pe_un (ho (fun c d H' => W c d σ H')) ha).run pins s σ H Q I ?_
  exact tM.mono (fun v H1 ⟨μ, M, ρ, d, r, e, q, a1⟩ => ⟨μ, M, d, r, q, a1⟩) (tM.seq (rel := DV X.K) h)
theorem ma_nil : MA X W [] aN := PA.weak pa_nil fun σ H Q ⟨μ, M, ρ, r, e, q⟩ => q μ H [] (Lift.refl ..) r DVs.nil
theorem ma_cons (ha : ME X W a fa) (hr : MA X W es g) (hs : starEach (a :: es) X.env = (false, eval a X.env) :: starEach es X.env := by rfl) : MA X W (a :: es) (aC fa g) := by
  refine PA.weak (pa_cons ha hr hs) fun σ H Q h => ?_
  refine tM.mono (fun v H1 ⟨μ, M, ρ, d, r, e, q, a1⟩ => ?_) (tM.seq (rel := DV X.K) h)
  have a2 := Ans.bind (rel := DVs X.K) a1
  refine ⟨μ, M, ρ, r, e, a2.mono (fun u H2 ⟨μ1, M1, d1, l, r1, q1, a3⟩ => ?_) fun _ _ _ z => z⟩
  exact a3 μ1 H2 _ (Lift.refl ..) r1 (DVs.cons (q.lift l) q1)
/-- tuples, lists by value, lists of the memory -/
def gTup : FL := fun ds M => if ds.length ≤ sizeLine then .ok (.tup ds) M else .no
def gLst : FL := fun ds M => if ds.length ≤ sizeLine then .ok (.lst ds) M else .no
def gNew : FL := fun ds M => if ds.length ≤ sizeLine then .ok (.ref M.length) (M ++ [.lst ds]) else .no
theorem ans_tup {K : PySem.W.Frag} {μ : Nat → Addr} {M : Mem} {H : Hp} {W : W0} {ds : List D} {vs : List V} {Q : VK} (r : Rel K μ M H) (q : DVs K μ M.length H ds vs) (a : Ans K (DV K) W μ M.length H (.ok (.tup ds) M) Q) (p : Addr) (hp : H p = none) : Q (.ref p) (upd H p (.tup vs)) := by
  refine a μ _ _ (Lift.fresh hp) (r.fresh hp) ?_
  unfold DV
  exact ⟨p, vs, rfl, SqT.of upd_same, q.lift (Lift.fresh hp)⟩
theorem ans_new {K : PySem.W.Frag} {μ : Nat → Addr} {M : Mem} {H : Hp} {W : W0} {ds : List D} {vs : List V} {Q : VK} (r : Rel K μ M H) (q : DVs K μ M.length H ds vs) (a : Ans K (DV K) W μ M.length H (.ok (.ref M.length) (M ++ [.lst ds])) Q) (p : Addr) (hp : H p = none) : Q (.ref p) (upd H p (.lst vs)) := by
  have l : Lift μ M.length H (ext μ M.length p) (M ++ [MO.lst ds]).length (upd H p (.lst vs)) := Lift.alloc hp
  refine a _ _ _ l (r.alloc hp ⟨vs, upd_same, q.lift l⟩) ?_
  unfold DV
  exact ⟨by simp, by unfold ext; rw [if_pos rfl]⟩
theorem me_tup {k : Nat} (h : MA X W es g) : ME X W (.Tuple es k pos) (eL gTup g) := by
  refine PE.weak (pe_tup h) fun σ H Q hw => ?_
  refine tM.mono (fun v H1 ⟨μ, M, ρ, d, r, e, q, a1⟩ => ?_) (tM.seq (rel := DVs X.K) hw)
  unfold gTup at a1
  split at a1
  · rename_i hl
    exact ⟨by rw [q.length]; exact hl, fun p hp => ans_tup r q a1 p hp⟩
  · exact a1.elim
theorem me_new (h : MA X W es g) : ME X W (.List es pos) (eL gNew g) := by
  refine PE.weak (pe_lst h) fun σ H Q hw => ?_
  refine tM.mono (fun v H1 ⟨μ, M, ρ, d, r, e, q, a1⟩ => ?_) (tM.seq (rel := DVs X.K) hw)
  unfold gNew at a1
  split at a1
  · rename_i hl
    exact ⟨by rw [q.length]; exact hl, fun p hp => ans_new r q a1 p hp⟩
  · exact a1.elim
theorem Inv.lock {pins : List (Addr × Obj)} {σ : L2.St} {H : Hp} {s : Shared} {a : Addr} {xs : List V} (I : Inv X pins σ H s) (h : H a = some (.lst xs)) : ∃ o, Inv X pins σ (upd H a (.frz o (.lst xs))) s := by
  obtain ⟨z, its, n, r, e⟩ := I.hok a _ h
  have mu : Mut (H a) := by rw [h]; trivial
  have J := I.write (x := a) (e := a) (o := .frz { cls := .type "list", data := .seq its.toArray n } (.lst xs)) (h' := s.heap) (t' := s.toks) mu (.inl rfl) (fun b u _ q => q) ⟨_, e⟩ ⟨e, z, its, n, r, e⟩
  exact ⟨_, J⟩
theorem PE.lock {t : TE} (h : PE X e t) : PE X e (fun σ H Q => t σ H fun x H1 => ∃ a xs, x = .ref a ∧ H1 a = some (.lst xs) ∧ ∀ o, Q x (upd H1 a (.frz o (.lst xs)))) := by
  refine ⟨fun pins s σ H Q I hw => thn (h.run pins s σ H _ I hw) fun u s1 ⟨v, H1, I1, rv, a, xs, e1, e2, q⟩ => ?_⟩
  obtain ⟨o, J⟩ := Inv.lock I1 e2
  exact ⟨v, _, J, rv, q o⟩
theorem upd2 {H : Hp} {p : Addr} {o u : HO} : upd (upd H p o) p u = upd H p u := upd_upd
theorem ans_lst {K : PySem.W.Frag} {μ : Nat → Addr} {M : Mem} {H : Hp} {W : W0} {ds : List D} {vs : List V} {Q : VK} (r : Rel K μ M H) (q : DVs K μ M.length H ds vs) (a : Ans K (DV K) W μ M.length H (.ok (.lst ds) M) Q) (p : Addr) (hp : H p = none) (o : Obj) :
    Q (.ref p) (upd (upd H p (.lst vs)) p (.frz o (.lst vs))) := by
  rw [upd_upd]
  refine a μ _ _ (Lift.fresh hp) (r.fresh hp) ?_
  unfold DV
  exact ⟨p, vs, rfl, .inl ⟨o, upd_same⟩, q.lift (Lift.fresh hp)⟩
theorem me_lst (h : MA X W es g) : ME X W (.List es pos) (eL gLst g) := by
  refine PE.weak (PE.lock (pe_lst h)) fun σ H Q hw => ?_
  refine tM.mono (fun v H1 ⟨μ, M, ρ, d, r, e, q, a1⟩ => ?_) (tM.seq (rel := DVs X.K) hw)
  unfold gLst at a1
  split at a1
  · rename_i hl
    exact ⟨by rw [q.length]; exact hl, fun p hp => ⟨p, v, rfl, upd_same, fun o => ans_lst r q a1 p hp o⟩⟩
  · exact a1.elim
theorem me_cb {x : Str} {id : String} {p : Pos} {h : FL} (hc : CallM X (.builtin id) h) (hg : Gl X x) (hm : X.mg x = none) (hv : bootBuiltins x = some (.builtin id)) (ha : MA X W (e :: es) g) (hn : x ≠ "__name__" := by decide) (hdb : (x == ("__debug__" : Str)) = false := by decide)
    (he : starEach (e :: es) X.env = (false, eval e X.env) :: starEach es X.env := by rfl) (hpl : (backTo pos (starEach es X.env)).any (·.1) = false := by rfl) : ME X W (.Call (.Name x p) (e :: es) [] pos) (eL h g) := by
  refine ⟨fun pins s σ H Q I hw => ?_⟩
  refine (pe_callB (hc (fun c d H' => W c d σ H')) hg hm hv ha hn hdb he hpl).run pins s σ H Q I ?_
  exact tM.mono (fun v H1 ⟨μ, M, ρ, d, r, e, q, a1⟩ => ⟨μ, M, d, r, q, a1⟩) (tM.seq (rel := DVs X.K) hw)
theorem me_ct {x : Str} {T : String} {p : Pos} {h : FL} (hc : CallM X (.type T) h) (hg : Gl X x) (hm : X.mg x = none) (hv : bootBuiltins x = some (.type T)) (ha : MA X W (e :: es) g) (hn : x ≠ "__name__" := by decide) (hdb : (x == ("__debug__" : Str)) = false := by decide)
    (he : starEach (e :: es) X.env = (false, eval e X.env) :: starEach es X.env := by rfl) (hpl : (backTo pos (starEach es X.env)).any (·.1) = false := by rfl) : ME X W (.Call (.Name x p) (e :: es) [] pos) (eL h g) := by
  refine ⟨fun pins s σ H Q I hw => ?_⟩
  refine (pe_callTy (hc (fun c d H' => W c d σ H')) hg hm hv ha hn hdb he hpl).run pins s σ H Q I ?_
  exact tM.mono (fun v H1 ⟨μ, M, ρ, d, r, e, q, a1⟩ => ⟨μ, M, d, r, q, a1⟩) (tM.seq (rel := DVs X.K) hw)
end
end Br
end
section
namespace Br
open PySem PySem.Spec PyProof.Rows L2
/-! ### tests -/
def truD (M : Mem) : D → Option Bool
  | .non => some false
  | .bl b => some b
  | .int i => some (i != 0)
  | .str y => if y.length ≤ sizeLine then some (decide (y.length ≠ 0)) else none
  | .tup xs => some (!xs.isEmpty)
  | .lst xs => some (!xs.isEmpty)
  | .ref n => match M[n]? with
    | some (.lst xs) => some (!xs.isEmpty)
    | some (.dic kvs) => some (!kvs.isEmpty)
    | _ => none
  | _ => none
theorem DVs.empty {K : PySem.W.Frag} {μ : Nat → Addr} {N : Nat} {H : Hp} {ds : List D} {vs : List V} (h : DVs K μ N H ds vs) : vs.isEmpty = ds.isEmpty := by
  have e := h.length
  cases ds <;> cases vs <;> simp_all
theorem KVs.empty {K : PySem.W.Frag} {μ : Nat → Addr} {N : Nat} {H : Hp} {ds : List (Key × D)} {vs : List (Key × V)} (h : KVs K μ N H ds vs) : vs.isEmpty = ds.isEmpty := by
  cases ds with
  | nil => have e : vs = [] := h; rw [e]; rfl
  | cons d ds => obtain ⟨v, r, e, _⟩ := h; rw [e]; rfl
theorem truD_ok {K : PySem.W.Frag} {μ : Nat → Addr} {M : Mem} {H : Hp} {d : D} {v : V} {b : Bool} (r : Rel K μ M H) (q : DV K μ M.length H d v) (h : truD M d = some b) : TruV K v H b := by
  cases d with
  | non => unfold DV at q; subst q; cases h; rfl
  | bl c => unfold DV at q; subst q; cases h; rfl
  | int i => unfold DV at q; subst q; cases h; rfl
  | str y =>
    unfold DV at q; subst q
    unfold truD at h
    dsimp only at h
    split at h
    · rename_i hl
      cases h
      refine ⟨hl, ?_⟩
      rw [Bool.eq_iff_iff]
      simp
    · cases h
  | tup xs =>
    unfold DV at q
    obtain ⟨a, ys, e, s, t⟩ := q
    subst e; cases h
    exact .inr (.inl ⟨ys, s, by rw [t.empty]⟩)
  | lst xs =>
    unfold DV at q
    obtain ⟨a, ys, e, s, t⟩ := q
    subst e; cases h
    exact .inl ⟨ys, s.seq, by rw [t.empty]⟩
  | ref n =>
    unfold DV at q
    obtain ⟨hn, e⟩ := q
    subst e
    unfold truD at h
    dsimp only at h
    split at h
    · rename_i xs hx
      cases h
      obtain ⟨ys, e1, e2⟩ := r.obj n _ hx
      exact .inl ⟨ys, SqL.of e1, by rw [e2.empty]⟩
    · rename_i xs hx
      cases h
      obtain ⟨ys, e1, e2⟩ := r.obj n _ hx
      exact .inr (.inr ⟨ys, e1, by rw [e2.empty]⟩)
    · cases h
  | gl x => cases h
  | ty t => cases h
  | ptp t => cases h
  | exc t u v => cases h
  | adr t u => cases h
def tT (f : FE) : FT := fun ρ M => (f ρ M).bind fun d M1 => match truD M1 d with
  | some b => .ok b M1
  | none => .no
def tNot (t : FT) : FT := fun ρ M => (t ρ M).bind fun b M1 => .ok (!b) M1
def tAnd (t u : FT) : FT := fun ρ M => (t ρ M).bind fun b M1 => if b = true then u ρ M1 else .ok false M1
def tOr (t u : FT) : FT := fun ρ M => (t ρ M).bind fun b M1 => if b = true then .ok true M1 else u ρ M1
def eAnd (a b : FE) : FE := fun ρ M => (a ρ M).bind fun x M1 => match truD M1 x with
  | some true => b ρ M1
  | some false => .ok x M1
  | none => .no
def eOr (a b : FE) : FE := fun ρ M => (a ρ M).bind fun x M1 => match truD M1 x with
  | some true => .ok x M1
  | some false => b ρ M1
  | none => .no
def eNot (a : FE) : FE := fun ρ M => (a ρ M).bind fun x M1 => match truD M1 x with
  | some b => .ok (.bl (!b)) M1
  | none => .no
def eIf (t : FT) (a b : FE) : FE := fun ρ M => (t ρ M).bind fun c M1 => if c = true then a ρ M1 else b ρ M1
def MW (X : Cx) (W : WX) (e : Expr) (f : FT) : Prop := PW X e (tM X.K BV W f)
section
variable {X : Cx} {W : WX} {e a b c : Expr} {es rest : List Expr} {f fa fb : FE} {ft fu : FT} {g : FA} {pos : Pos}
theorem PW.weak {t t' : TT} (h : PW X e t) (w : ∀ σ H Q, t' σ H Q → t σ H Q) : PW X e t' := ⟨fun wh pins s σ H Q I hw => h.run wh pins s σ H Q I (w σ H Q hw)⟩
theorem mt_tru (ha : ME X W a fa) (he : ∀ whole, isTrue a X.env whole = (do let v ← whole; standAt a.pos; holding [v] (truthy v)) := by intro _; rfl) : MT X W a (tT fa) := by
  refine PT.weak (pt_truth ha he) fun σ H Q h => ?_
  refine tM.mono (fun v H1 ⟨μ, M, ρ, d, r, e, q, a1⟩ => ?_) (tM.seq (rel := DV X.K) h)
  cases hd : truD M d with
  | none => rw [hd] at a1; exact a1.elim
  | some k =>
    rw [hd] at a1
    exact ⟨k, truD_ok r q hd, a1 μ H1 k (Lift.refl ..) r rfl⟩
theorem mw_and1 (ha : MT X W a ft) : MW X W (.BoolOp .And [a] pos) ft := pw_and1 ha
theorem mw_or1 (ha : MT X W a ft) : MW X W (.BoolOp .Or [a] pos) ft := pw_or1 ha
theorem mw_and (ha : MT X W a ft) (hb : MW X W (.BoolOp .And (b :: rest) pos) fu) : MW X W (.BoolOp .And (a :: b :: rest) pos) (tAnd ft fu) := by
  refine PW.weak (pw_and ha hb) fun σ H Q h => ?_
  refine tM.mono (fun v H1 ⟨μ, M, ρ, d, r, e, q, a1⟩ => ?_) (tM.seq (rel := BV) h)
  have q' : d = v := q
  subst q'
  cases d with
  | true => exact ⟨μ, M, ρ, r, e, a1⟩
  | false => exact a1 μ H1 false (Lift.refl ..) r rfl
theorem mw_or (ha : MT X W a ft) (hb : MW X W (.BoolOp .Or (b :: rest) pos) fu) : MW X W (.BoolOp .Or (a :: b :: rest) pos) (tOr ft fu) := by
  refine PW.weak (pw_or ha hb) fun σ H Q h => ?_
  refine tM.mono (fun v H1 ⟨μ, M, ρ, d, r, e, q, a1⟩ => ?_) (tM.seq (rel := BV) h)
  have q' : d = v := q
  subst q'
  cases d with
  | false => exact ⟨μ, M, ρ, r, e, a1⟩
  | true => exact a1 μ H1 true (Lift.refl ..) r rfl
theorem mt_w (h : MW X W e ft) : MT X W e ft := PW.pt h
theorem mt_not (ha : MT X W a ft) : MT X W (.UnaryOp .Not a pos) (tNot ft) := by
  refine PT.weak (pt_not ha) fun σ H Q h => ?_
  refine tM.mono (fun v H1 ⟨μ, M, ρ, d, r, e, q, a1⟩ => ?_) (tM.seq (rel := BV) h)
  have q' : d = v := q
  subst q'
  exact a1 μ H1 _ (Lift.refl ..) r rfl
theorem me_and1 {op : BoolOp} (ha : ME X W a fa) : ME X W (.BoolOp op [a] pos) fa := pe_one ha
theorem me_and (ha : ME X W a fa) (hb : ME X W (.BoolOp .And (b :: rest) pos) fb) : ME X W (.BoolOp .And (a :: b :: rest) pos) (eAnd fa fb) := by
  refine PE.weak (pe_andT ha hb) fun σ H Q h => ?_
  refine tM.mono (fun v H1 ⟨μ, M, ρ, d, r, e, q, a1⟩ => ?_) (tM.seq (rel := DV X.K) h)
  cases hd : truD M d with
  | none => rw [hd] at a1; exact a1.elim
  | some k =>
    rw [hd] at a1
    refine ⟨k, truD_ok r q hd, ?_⟩
    cases k with
    | true => exact ⟨μ, M, ρ, r, e, a1⟩
    | false => exact a1 μ H1 v (Lift.refl ..) r q
theorem me_or (ha : ME X W a fa) (hb : ME X W (.BoolOp .Or (b :: rest) pos) fb) : ME X W (.BoolOp .Or (a :: b :: rest) pos) (eOr fa fb) := by
  refine PE.weak (pe_orT ha hb) fun σ H Q h => ?_
  refine tM.mono (fun v H1 ⟨μ, M, ρ, d, r, e, q, a1⟩ => ?_) (tM.seq (rel := DV X.K) h)
  cases hd : truD M d with
  | none => rw [hd] at a1; exact a1.elim
  | some k =>
    rw [hd] at a1
    refine ⟨k, truD_ok r q hd, ?_⟩
    cases k with
    | false => exact ⟨μ, M, ρ, r, e, a1⟩
    | true => exact a1 μ H1 v (Lift.refl ..) r q
theorem me_not (ha : ME X W a fa) : ME X W (.UnaryOp .Not a pos) (eNot fa) := by
  refine PE.weak (pe_notT ha) fun σ H Q h => ?_
  refine tM.mono (fun v H1 ⟨μ, M, ρ, d, r, e, q, a1⟩ => ?_) (tM.seq (rel := DV X.K) h)
  cases hd : truD M d with
  | none => rw [hd] at a1; exact a1.elim
  | some k =>
    rw [hd] at a1
    exact ⟨k, truD_ok r q hd, a1 μ H1 _ (Lift.refl ..) r (by unfold DV; rfl)⟩
theorem me_if (ht : MT X W c ft) (ha : ME X W a fa) (hb : ME X W b fb) : ME X W (.IfExp c a b pos) (eIf ft fa fb) := by
  refine PE.weak (pe_ifExp ht ha hb) fun σ H Q h => ?_
  refine tM.mono (fun v H1 ⟨μ, M, ρ, d, r, e, q, a1⟩ => ?_) (tM.seq (rel := BV) h)
  have q' : d = v := q
  subst q'
  cases d with
  | true => exact ⟨μ, M, ρ, r, e, a1⟩
  | false => exact ⟨μ, M, ρ, r, e, a1⟩
end
/-! ### statements -/
inductive SR where
  | go (f : Fl) (ρ : En) (M : Mem) | ex (e : Exn) (ρ : En) (M : Mem) | no
abbrev FStm := En → Mem → SR
section
variable (K : PySem.W.Frag)
def AnsS (W : WX) (μ : Nat → Addr) (N : Nat) (H : Hp) (r : SR) (D : Ends) : Prop := match r with
  | .go .nx ρ' M' => ∀ μ' H' σ', Lift μ N H μ' M'.length H' → Rel K μ' M' H' → EV K μ' M'.length H' ρ' σ' → D.nx σ' H'
  | .go .bk ρ' M' => ∀ μ' H' σ', Lift μ N H μ' M'.length H' → Rel K μ' M' H' → EV K μ' M'.length H' ρ' σ' → D.bk σ' H'
  | .go .ct ρ' M' => ∀ μ' H' σ', Lift μ N H μ' M'.length H' → Rel K μ' M' H' → EV K μ' M'.length H' ρ' σ' → D.ct σ' H'
  | .go (.ret d) ρ' M' => ∀ μ' H' v, Lift μ N H μ' M'.length H' → Rel K μ' M' H' → DV K μ' M'.length H' d v → D.rt v H'
  | .ex e ρ' M' => ∀ μ' H' σ' cls dd, Lift μ N H μ' M'.length H' → Rel K μ' M' H' → EV K μ' M'.length H' ρ' σ' → XV K μ' M'.length H' e cls dd → W cls dd σ' H'
  | .no => False
def tSt (W : WX) (g : FStm) : TS := fun D σ H => ∃ μ M ρ, Rel K μ M H ∧ EV K μ M.length H ρ σ ∧ AnsS K W μ M.length H (g ρ M) D
end
def MS (X : Cx) (W : WX) (st : Stmt) (g : FStm) : Prop := PS X st (tSt X.K W g)
def MSs (X : Cx) (W : WX) (st : List Stmt) (g : FStm) : Prop := PSs X st (tSt X.K W g)
/-- an expression in a statement -/
def SR.of {α : Type} (r : R α) (ρ : En) (k : α → Mem → SR) : SR := match r with
  | .ok a M => k a M
  | .ex e M => .ex e ρ M
  | .no => .no
def SR.then (r : SR) (k : En → Mem → SR) : SR := match r with
  | .go .nx ρ M => k ρ M
  | r => r
def sNx : FStm := fun ρ M => .go .nx ρ M
def sSeq (a b : FStm) : FStm := fun ρ M => (a ρ M).then b
def sDrop (a : FE) : FStm := fun ρ M => SR.of (a ρ M) ρ fun _ M1 => .go .nx ρ M1
def sRet (a : FE) : FStm := fun ρ M => SR.of (a ρ M) ρ fun d M1 => .go (.ret d) ρ M1
def sRetN : FStm := fun ρ M => .go (.ret .non) ρ M
def sIf (t : FT) (a b : FStm) : FStm := fun ρ M => SR.of (t ρ M) ρ fun c M1 => if c = true then a ρ M1 else b ρ M1
def sBk : FStm := fun ρ M => .go .bk ρ M
def sCt : FStm := fun ρ M => .go .ct ρ M
/-- a target takes a value -/
abbrev FG := D → FStm
def gN (i : Nat) : FG := fun d ρ M => .go .nx (ρ.set i (some d)) M
def sAsg (a : FE) (g : FG) : FStm := fun ρ M => SR.of (a ρ M) ρ fun d M1 => g d ρ M1
section
variable {K : PySem.W.Frag} {α β : Type} {rel : (Nat → Addr) → Nat → Hp → α → β → Prop} {W : WX} {μ μ1 : Nat → Addr} {N N1 : Nat} {H H1 : Hp} {σ : L2.St}
theorem AnsS.rebase {r : SR} {D : Ends} (l : Lift μ N H μ1 N1 H1) (h : AnsS K W μ N H r D) : AnsS K W μ1 N1 H1 r D := by
  cases r with
  | go f ρ M =>
    cases f with
    | nx => exact fun μ' H' σ' l' r' q => h μ' H' σ' (l.trans l') r' q
    | bk => exact fun μ' H' σ' l' r' q => h μ' H' σ' (l.trans l') r' q
    | ct => exact fun μ' H' σ' l' r' q => h μ' H' σ' (l.trans l') r' q
    | ret d => exact fun μ' H' v l' r' q => h μ' H' v (l.trans l') r' q
  | ex e ρ M => exact fun μ' H' σ' c d l' r' q => h μ' H' σ' c d (l.trans l') r' q
  | no => exact h
theorem AnsS.then {r : SR} {k : FStm} {D : Ends} (h : AnsS K W μ N H (r.then k) D) : AnsS K W μ N H r { D with nx := tSt K W k D } := by
  cases r with
  | go f ρ M =>
    cases f with
    | nx => exact fun μ' H' σ' l' r' q => ⟨μ', M, ρ, r', q, AnsS.rebase l' h⟩
    | bk => exact h
    | ct => exact h
    | ret d => exact h
  | ex e ρ M => exact h
  | no => exact h
theorem tSt.expr {f : En → Mem → R α} {k : En → α → Mem → SR} {D : Ends} (h : tSt K W (fun ρ M => SR.of (f ρ M) ρ (k ρ)) D σ H) :
    tM K rel W f σ H (fun v H1 => ∃ μ M ρ d, Rel K μ M H1 ∧ EV K μ M.length H1 ρ σ ∧ rel μ M.length H1 d v ∧ AnsS K W μ M.length H1 (k ρ d M) D) := by
  obtain ⟨μ, M, ρ, r, e, a⟩ := h
  refine ⟨μ, M, ρ, r, e, ?_⟩
  dsimp only at a
  cases hf : f ρ M with
  | ok d M1 =>
    rw [hf] at a
    exact fun μ' H' v l r' q => ⟨μ', M1, ρ, d, r', e.lift l, q, AnsS.rebase l a⟩
  | ex x M1 =>
    rw [hf] at a
    exact fun μ' H' c d l r' q => a μ' H' σ c d l r' (e.lift l) q
  | no => rw [hf] at a; exact a
end
def MG (X : Cx) (W : WX) (t : Expr) (g : FG) : Prop := PG X t (fun v σ H Q => ∃ μ M ρ d, Rel X.K μ M H ∧ EV X.K μ M.length H ρ σ ∧ DV X.K μ M.length H d v ∧
  AnsS X.K W μ M.length H (g d ρ M) { nx := Q, rt := fun _ _ => False })
section
variable {X : Cx} {W : WX} {st : Stmt} {sts : List Stmt} {e c tg : Expr} {f : FE} {ft : FT} {g g1 g2 : FStm} {gg : FG} {pos : Pos}
theorem mss_nil : MSs X W [] sNx := PSs.weak pss_nil fun D σ H ⟨μ, M, ρ, r, e, a⟩ => a μ H σ (Lift.refl ..) r e
theorem mss_cons (h1 : MS X W st g1) (h2 : MSs X W sts g2) : MSs X W (st :: sts) (sSeq g1 g2) := by
  refine PSs.weak (pss_cons h1 h2) fun D σ H ⟨μ, M, ρ, r, e, a⟩ => ?_
  exact ⟨μ, M, ρ, r, e, AnsS.then a⟩
theorem mss_one (h1 : MS X W st g1) : MSs X W [st] g1 := pss_one h1
theorem ms_pass : MS X W (.Pass pos) sNx := PS.weak ps_pass fun D σ H ⟨μ, M, ρ, r, e, a⟩ => a μ H σ (Lift.refl ..) r e
theorem ms_break : MS X W (.Break pos) sBk := PS.weak ps_break fun D σ H ⟨μ, M, ρ, r, e, a⟩ => a μ H σ (Lift.refl ..) r e
theorem ms_cont : MS X W (.Continue pos) sCt := PS.weak ps_continue fun D σ H ⟨μ, M, ρ, r, e, a⟩ => a μ H σ (Lift.refl ..) r e
theorem ms_doc {x : Str} {j : Nat} {pos' : Pos} : MS X W (.Expr (.Constant (.str x) j pos) pos') sNx := PS.weak ps_doc fun D σ H ⟨μ, M, ρ, r, e, a⟩ => a μ H σ (Lift.refl ..) r e
theorem ms_expr (he : ME X W e f) (hs : swapsWith e none pos.line X.env = pure false := by rfl) : MS X W (.Expr e pos) (sDrop f) := by
  refine PS.weak (ps_expr he hs) fun D σ H h => ?_
  exact tM.mono (fun v H1 ⟨μ, M, ρ, d, r, e, q, a⟩ => a μ H1 σ (Lift.refl ..) r e) (tSt.expr (rel := DV X.K) h)
theorem ms_ret (he : ME X W e f) : MS X W (.Return (some e) pos) (sRet f) := by
  refine PS.weak (ps_ret he) fun D σ H h => ?_
  exact tM.mono (fun v H1 ⟨μ, M, ρ, d, r, e, q, a⟩ => a μ H1 v (Lift.refl ..) r q) (tSt.expr (rel := DV X.K) h)
theorem ms_retN : MS X W (.Return none pos) sRetN := PS.weak ps_retN fun D σ H ⟨μ, M, ρ, r, e, a⟩ => a μ H .non (Lift.refl ..) r (by unfold DV; rfl)
theorem ms_if {a b : List Stmt} (hc : MT X W c ft) (ha : MSs X W a g1) (hb : MSs X W b g2) : MS X W (.If c a b pos) (sIf ft g1 g2) := by
  refine PS.weak (ps_if hc ha hb) fun D σ H h => ?_
  refine tM.mono (fun v H1 ⟨μ, M, ρ, d, r, e, q, a⟩ => ?_) (tSt.expr (rel := BV) h)
  have q' : d = v := q
  subst q'
  cases d with
  | true => exact ⟨μ, M, ρ, r, e, a⟩
  | false => exact ⟨μ, M, ρ, r, e, a⟩
theorem mg_n (i : Nat) {x : Str} (hN : X.N.Nodup) (hi : X.N[i]? = some x) (hx : Loc X.env.scope x) (hf : X.fn x = true ∨ X.env.scope.names.lookup x = some .local := by first | exact .inl rfl | exact .inr rfl | assumption) : MG X W (.Name x pos) (gN i) :=
  ⟨fun pins s σ H v u Q I rv ⟨μ, M, ρ, d, r, e, q, a⟩ => (pg_name hN hi hx hf).run pins s σ H v u Q I rv (a μ H _ (Lift.refl ..) r (e.set q i))⟩
theorem ms_asg (he : ME X W e f) (hg : MG X W tg gg) (hs : swapsWithSole [tg] e pos.line X.env = pure false := by rfl) (hw : swappedStores [tg] e X.env = pure none := by rfl)
    (h1 : (assignEach [tg] X.env).map (·.2) = [assign tg X.env] := by rfl) (hnb : ∀ d ρ M, ∃ ρ' M', gg d ρ M = .go .nx ρ' M' ∨ gg d ρ M = .no := by intros; exact ⟨_, _, .inl rfl⟩) : MS X W (.Assign [tg] e pos) (sAsg f gg) := by
  refine PS.weak (ps_asg he hg hs hw h1) fun D σ H h => ?_
  refine tM.mono (fun v H1 ⟨μ, M, ρ, d, r, e, q, a⟩ => ⟨μ, M, ρ, d, r, e, q, ?_⟩) (tSt.expr (rel := DV X.K) h)
  obtain ⟨ρ', M', z⟩ := hnb d ρ M
  rcases z with z | z
  · rw [z] at a ⊢; exact a
  · rw [z] at a ⊢; exact a
theorem ms_set (i : Nat) {x : Str} {pos' : Pos} (hN : X.N.Nodup) (hi : X.N[i]? = some x) (hx : Loc X.env.scope x) (he : ME X W e f) (hs : swapsWith e (some (.Name x pos')) pos.line X.env = pure false := by rfl)
    (hf : X.fn x = true ∨ X.env.scope.names.lookup x = some .local := by first | exact .inl rfl | exact .inr rfl | assumption) : MS X W (.Assign [.Name x pos'] e pos) (sAsg f (gN i)) := by
  refine PS.weak (ps_set hN hi hx he hs hf) fun D σ H h => ?_
  exact tM.mono (fun v H1 ⟨μ, M, ρ, d, r, e, q, a⟩ => a μ H1 _ (Lift.refl ..) r (e.set q i)) (tSt.expr (rel := DV X.K) h)
end
/-! ### while -/
def sWhile : Nat → FT → FStm → FStm
  | 0, _, _ => fun _ _ => .no
  | n + 1, c, b => fun ρ M => SR.of (c ρ M) ρ fun k M1 => if k = true then (match b ρ M1 with
      | .go .nx ρ' M' => sWhile n c b ρ' M'
      | .go .ct ρ' M' => sWhile n c b ρ' M'
      | .go .bk ρ' M' => .go .nx ρ' M'
      | r => r) else .go .nx ρ M1
section
variable {X : Cx} {W : WX} {c : Expr} {body : List Stmt} {ft : FT} {g : FStm} {pos : Pos}
theorem ms_while (n : Nat) (hp : PassesOwn (model X.prog X.w) X.A X.env X.xe) (hc : MT X W c ft) (hb : MSs X W body g) : MS X W (.While c body [] pos) (sWhile n ft g) := by
  refine PS.weak (ps_while hp hc hb) fun D σ H h => ?_
  refine ⟨fun m σ H => tSt X.K W (sWhile m ft g) D σ H, ⟨n, h⟩, fun m σ H hw => ?_⟩
  cases m with
  | zero => obtain ⟨_, _, _, _, _, z⟩ := hw; exact z.elim
  | succ m =>
    refine tM.mono (fun v H1 ⟨μ, M, ρ, d, r, e, q, a⟩ => ?_) (tSt.expr (rel := BV) hw)
    have q' : d = v := q
    subst q'
    cases d with
    | false => exact a μ H1 σ (Lift.refl ..) r e
    | true =>
      refine ⟨fun σ' H' => tSt X.K W (sWhile m ft g) D σ' H', fun σ' H' z => ⟨m, Nat.lt_succ_self m, z⟩, μ, M, ρ, r, e, ?_⟩
      rw [if_pos rfl] at a
      cases hg : g ρ M with
      | go f ρ' M' =>
        rw [hg] at a
        cases f with
        | nx => exact fun μ' H' σ' l' r' q => ⟨μ', M', ρ', r', q, AnsS.rebase l' a⟩
        | ct => exact fun μ' H' σ' l' r' q => ⟨μ', M', ρ', r', q, AnsS.rebase l' a⟩
        | bk => exact a
        | ret d => exact a
      | ex x ρ' M' => rw [hg] at a; exact a
      | no => rw [hg] at a; exact a.elim
end
/-! ### for -/
/-- one turn: the target, the body -/
def turn (gg : FG) (b : FStm) (x : D) (k : En → Mem → SR) : FStm := fun ρ M => match gg x ρ M with
  | .go .nx ρ1 M1 => (match b ρ1 M1 with
    | .go .nx ρ' M' => k ρ' M'
    | .go .ct ρ' M' => k ρ' M'
    | .go .bk ρ' M' => .go .nx ρ' M'
    | r => r)
  | _ => .no
def sFor (gg : FG) (b : FStm) : List D → FStm
  | [] => fun ρ M => .go .nx ρ M
  | x :: xs => turn gg b x (sFor gg b xs)
/-- over the n-th list of the memory, from place i on, as it stands at each turn; at most m turns -/
def sForL (gg : FG) (b : FStm) (n : Nat) : Nat → Nat → FStm
  | 0, _ => fun _ _ => .no
  | m + 1, i => fun ρ M => match M[n]? with
    | some (.lst ds) => (match ds[i]? with
      | none => .go .nx ρ M
      | some x => turn gg b x (sForL gg b n m (i + 1)) ρ M)
    | _ => .no
/-- a walked thing by data: a list of items, or a list of the memory -/
inductive Wk where
  | items (ds : List D) | obj (n : Nat)
def sForW (m : Nat) (w : Wk) (gg : FG) (b : FStm) : FStm := match w with
  | .items ds => sFor gg b ds
  | .obj n => sForL gg b n m 0
def wkOf (M : Mem) : D → Option Wk
  | .tup ds => some (.items ds)
  | .lst ds => some (.items ds)
  | .ref n => (match M[n]? with
    | some (.lst _) => some (.obj n)
    | _ => none)
  | _ => none
/-- what a for walks: the walk J over data w -/
def WkR (K : PySem.W.Frag) (μ : Nat → Addr) (N : Nat) (H : Hp) (w : Wk) (J : It) : Prop := match w with
  | .items ds => ∀ μ' N' H', Lift μ N H μ' N' H' → J.stop ds.length H' ∧ ∀ (i : Nat) d, ds[i]? = some d → J.go i H' ∧ ∀ M x H2, Rel K μ' M H' → M.length = N' → J.yld i H' x H2 → Rel K μ' M H2 ∧ Lift μ' N' H' μ' N' H2 ∧ DV K μ' N' H2 d x
  | .obj n => n < N ∧ J = Itl K (μ n)
theorem wk_tup {K : PySem.W.Frag} {μ : Nat → Addr} {N : Nat} {H : Hp} {ds : List D} {vs : List V} {a : Addr} (q : DVs K μ N H ds vs) (s : SqT K H a vs) : WkR K μ N H (.items ds) (Itt K a) := by
  intro μ' N' H' l
  have s' := l.kp.sqT s
  have q' := q.lift l
  refine ⟨⟨vs, s', by rw [q.length]; exact Nat.le_refl _⟩, fun i d hd => ?_⟩
  obtain ⟨v, hv, dv⟩ := q'.get hd
  refine ⟨⟨vs, v, s', hv⟩, fun M x H2 r e y => ?_⟩
  obtain ⟨e1, y⟩ := y
  subst e1
  have e2 := y vs s'
  rw [hv] at e2
  cases e2
  exact ⟨r, Lift.refl .., dv⟩
theorem wk_lst {K : PySem.W.Frag} {μ : Nat → Addr} {N : Nat} {H : Hp} {ds : List D} {vs : List V} {a : Addr} (q : DVs K μ N H ds vs) (s : SqF K H a vs) : WkR K μ N H (.items ds) (Itl K a) := by
  intro μ' N' H' l
  have s' := (l.kp.sqF s).seq
  have q' := q.lift l
  refine ⟨⟨vs, s', by rw [q.length]; exact Nat.le_refl _⟩, fun i d hd => ?_⟩
  obtain ⟨v, hv, dv⟩ := q'.get hd
  refine ⟨⟨vs, v, s', hv⟩, fun M x H2 r e y => ?_⟩
  obtain ⟨e1, y⟩ := y
  subst e1
  have e2 := y vs s'
  rw [hv] at e2
  cases e2
  exact ⟨r, Lift.refl .., dv⟩
def rangeD (lo : Int) (n : Nat) : List D := (List.range n).map fun (i : Nat) => D.int (lo + (i : Int))
theorem wk_range {K : PySem.W.Frag} {μ : Nat → Addr} {N : Nat} {H : Hp} (lo : Int) (n : Nat) : WkR K μ N H (.items (rangeD lo n)) (Itr lo n) := by
  intro μ' N' H' l
  refine ⟨by show n ≤ _; simp [rangeD], fun i d hd => ?_⟩
  have hi : i < n := by
    have := (List.getElem?_eq_some_iff.mp hd).1
    simpa [rangeD] using this
  have e : d = .int (lo + (i : Int)) := by
    simp [rangeD, hi] at hd
    exact hd.symm
  subst e
  refine ⟨hi, fun M x H2 r e y => ?_⟩
  obtain ⟨e1, y⟩ := y
  subst e1
  exact ⟨r, Lift.refl .., by unfold DV; exact y⟩
def MI (X : Cx) (W : WX) (tg iter : Expr) (fw : En → Mem → R Wk) : Prop := PI X tg iter (tM X.K (WkR X.K) W fw)
def wIt (f : FE) : En → Mem → R Wk := fun ρ M => (f ρ M).bind fun d M1 => match wkOf M1 d with
  | some w => .ok w M1
  | none => .no
def sForE (m : Nat) (fw : En → Mem → R Wk) (gg : FG) (b : FStm) : FStm := fun ρ M => SR.of (fw ρ M) ρ fun w M1 => sForW m w gg b ρ M1
section
variable {X : Cx} {W : WX} {tg iter : Expr} {body : List Stmt} {fw : En → Mem → R Wk} {gg : FG} {g : FStm} {pos : Pos}
theorem PI.weak {t t' : TI} (h : PI X tg iter t) (w : ∀ σ H Q, t' σ H Q → t σ H Q) : PI X tg iter t' := ⟨fun pins s σ H Q I hw => h.run pins s σ H Q I (w σ H Q hw)⟩
theorem ms_for (m : Nat) (hp : PassesOwn (model X.prog X.w) X.A X.env X.xe) (hc : X.calm = true) (hi : MI X W tg iter fw) (hg : MG X W tg gg) (hb : MSs X W body g)
    (hs : ∀ x, foldedSetIterable iter X.env x = pure x := by intro _; rfl) : MS X W (.For tg iter body [] pos) (sForE m fw gg g) := by
  refine PS.weak (ps_for hp hc hi hg hb hs) fun D σ H h => ?_
  refine tM.mono (fun J H1 ⟨μ, M, ρ, w, r, e, q, a⟩ => ?_) (tSt.expr (rel := WkR X.K) h)
  cases w with
  | items ds =>
    refine ⟨fun i m σ' H' => m = ds.length - i ∧ i ≤ ds.length ∧ ∃ μ' M' ρ', Lift μ M.length H1 μ' M'.length H' ∧ Rel X.K μ' M' H' ∧ EV X.K μ' M'.length H' ρ' σ' ∧ AnsS X.K W μ' M'.length H' (sFor gg g (ds.drop i) ρ' M') D,
      ⟨_, rfl, Nat.zero_le _, μ, M, ρ, Lift.refl .., r, e, a⟩, ?_⟩
    rintro i m' σ' H' ⟨rfl, hi, μ', M', ρ', l, r', e', a'⟩
    obtain ⟨h1, h2⟩ := q μ' M'.length H' l
    by_cases hlt : i < ds.length
    · have hd : ds[i]? = some ds[i] := by simp [hlt]
      obtain ⟨h3, h4⟩ := h2 i ds[i] hd
      refine .inr ⟨h3, fun σ2 H2 => ∃ m', m' < ds.length - i ∧ (m' = ds.length - (i + 1) ∧ i + 1 ≤ ds.length ∧ ∃ μ' M' ρ', Lift μ M.length H1 μ' M'.length H2 ∧ Rel X.K μ' M' H2 ∧ EV X.K μ' M'.length H2 ρ' σ2 ∧ AnsS X.K W μ' M'.length H2 (sFor gg g (ds.drop (i + 1)) ρ' M') D),
        fun σ2 H2 z => z, fun x H2 y => ?_⟩
      obtain ⟨r2, l2, d2⟩ := h4 M' x H2 r' rfl y
      rw [List.drop_eq_getElem_cons hlt] at a'
      have a2 := AnsS.rebase l2 a'
      -- the turn, told with where it began
      refine ⟨μ', M', ρ', ds[i], r2, e'.lift l2, d2, ?_⟩
      have l3 := l.trans l2
      unfold sFor turn at a2
      cases hg : gg ds[i] ρ' M' with
      | go f ρ1 M1 =>
        rw [hg] at a2
        cases f with
        | nx =>
          refine fun μ1 H3 σ1 l1 r1 q1 => ⟨μ1, M1, ρ1, r1, q1, ?_⟩
          dsimp only at a2
          have a3 := AnsS.rebase l1 a2
          cases hb : g ρ1 M1 with
          | go f ρ2 M2 =>
            rw [hb] at a3
            cases f with
            | nx => exact fun μ4 H4 σ4 l4 r4 q4 => ⟨_, by omega, rfl, hlt, μ4, M2, ρ2, (l3.trans l1).trans l4, r4, q4, AnsS.rebase l4 a3⟩
            | ct => exact fun μ4 H4 σ4 l4 r4 q4 => ⟨_, by omega, rfl, hlt, μ4, M2, ρ2, (l3.trans l1).trans l4, r4, q4, AnsS.rebase l4 a3⟩
            | bk => exact a3
            | ret d => exact a3
          | ex x ρ2 M2 => rw [hb] at a3; exact a3
          | no => rw [hb] at a3; exact a3.elim
        | bk => exact a2.elim
        | ct => exact a2.elim
        | ret d => exact a2.elim
      | ex x ρ1 M1 => rw [hg] at a2; exact a2.elim
      | no => rw [hg] at a2; exact a2.elim
    · have e2 : i = ds.length := by omega
      subst e2
      rw [List.drop_length] at a'
      exact .inl ⟨h1, a' μ' H' σ' (Lift.refl ..) r' e'⟩
  | obj n =>
    obtain ⟨hn, eJ⟩ := q
    subst eJ
    refine ⟨fun i m' σ' H' => ∃ μ' M' ρ', Lift μ M.length H1 μ' M'.length H' ∧ Rel X.K μ' M' H' ∧ EV X.K μ' M'.length H' ρ' σ' ∧ AnsS X.K W μ' M'.length H' (sForL gg g n m' i ρ' M') D, ⟨m, μ, M, ρ, Lift.refl .., r, e, a⟩, ?_⟩
    rintro i m' σ' H' ⟨μ', M', ρ', l, r', e', a'⟩
    cases m' with
    | zero => exact a'.elim
    | succ m' =>
      unfold sForL at a'
      split at a'
      · rename_i ds hds
        obtain ⟨xs, hx, dx⟩ := r'.obj n _ hds
        have eμ : μ' n = μ n := l.same n hn
        rw [eμ] at hx
        split at a'
        · rename_i hnone
          have hl : ds.length ≤ i := List.getElem?_eq_none_iff.mp hnone
          exact .inl ⟨⟨xs, SqL.of hx, by rw [dx.length]; exact hl⟩, a' μ' H' σ' (Lift.refl ..) r' e'⟩
        · rename_i d hd
          obtain ⟨v, hv, dv⟩ := dx.get hd
          refine .inr ⟨⟨xs, v, SqL.of hx, hv⟩, fun σ2 H2 => ∃ μ' M' ρ', Lift μ M.length H1 μ' M'.length H2 ∧ Rel X.K μ' M' H2 ∧ EV X.K μ' M'.length H2 ρ' σ2 ∧ AnsS X.K W μ' M'.length H2 (sForL gg g n m' (i + 1) ρ' M') D, fun σ2 H2 z => ⟨m', Nat.lt_succ_self _, z⟩, fun x H2 y => ?_⟩
          obtain ⟨e1, y⟩ := y
          subst e1
          have e2 := y xs (SqL.of hx)
          rw [hv] at e2
          cases e2
          refine ⟨μ', M', ρ', d, r', e', dv, ?_⟩
          unfold turn at a'
          cases hg : gg d ρ' M' with
          | go f ρ1 M1 =>
            rw [hg] at a'
            cases f with
            | nx =>
              refine fun μ1 H3 σ1 l1 r1 q1 => ⟨μ1, M1, ρ1, r1, q1, ?_⟩
              dsimp only at a'
              have a3 := AnsS.rebase l1 a'
              cases hb : g ρ1 M1 with
              | go f ρ2 M2 =>
                rw [hb] at a3
                cases f with
                | nx => exact fun μ4 H4 σ4 l4 r4 q4 => ⟨μ4, M2, ρ2, (l.trans l1).trans l4, r4, q4, AnsS.rebase l4 a3⟩
                | ct => exact fun μ4 H4 σ4 l4 r4 q4 => ⟨μ4, M2, ρ2, (l.trans l1).trans l4, r4, q4, AnsS.rebase l4 a3⟩
                | bk => exact a3
                | ret d => exact a3
              | ex x ρ2 M2 => rw [hb] at a3; exact a3
              | no => rw [hb] at a3; exact a3.elim
            | bk => exact a'.elim
            | ct => exact a'.elim
            | ret d => exact a'.elim
          | ex x ρ1 M1 => rw [hg] at a'; exact a'.elim
          | no => rw [hg] at a'; exact a'.elim
      · exact a'.elim
end
end Br
end
section
namespace Br
open PySem PySem.Spec PyProof.Rows L2
theorem upN {P : Program} {w : World} : StX.CXUp (L2N.CX P w) := by
  rintro outer s H s2 H2 E e s' u kp ho ⟨a, B, H', cls, d, ea, fl, hok, b0, na, os, ag, he⟩
  have fr : ∀ b o, s.heap.get? b = some o → H b = none → H2 b = none := fun b o q n => u.free b o q n (by simp)
  refine ⟨a, B, H', cls, d, ea, fl, hok, ?_, na, os.trans ho, ag, he⟩
  constructor
  · exact fun b o q n hb => b0.keep b o (kp b o q) (fr b o q n) hb
  · exact fun b o q hb => b0.slot b o (kp b o q) hb
  · exact fun b o q n => b0.free b o (kp b o q) (fr b o q n)
  · exact fun b o q hb => b0.there b o (kp b o q) hb
  · exact fun b xs q => b0.tups b xs (u.tups b xs q)
  · exact fun b o xs q => b0.frzs b o xs (u.frzs b o xs q)
  · intro b ps q
    obtain ⟨m1, e1⟩ := u.tbls b ps q
    obtain ⟨m2, e2⟩ := b0.tbls b _ e1
    exact ⟨m1 ++ m2, by rw [e2, Array.append_assoc]⟩
/-! ### defs -/
/-- what a def's promise says: it gives what m gives -/
def sM (K : PySem.W.Frag) (m : FL) (E : W0) (Q : VK) (vs : List V) (H : Hp) : Prop := ∃ μ M ds, Rel K μ M H ∧ DVs K μ M.length H ds vs ∧ Ans K (DV K) E μ M.length H (m ds M) Q
structure FnM (P : Program) (w : World) (K : PySem.W.Frag) (mg : Str → Option Value) (base : Heap) (k : Nat) (f : Addr) (fd : FuncData) (ps : List Str) (m : FL) : Prop where
  run : ∀ (A : Around) (outer : List Env) (s : Shared) (H : Hp) (args : Args) (Q : VK) (E : XK) (G : List V → Hp → Prop), Room k A → A.guards = some [] → Env0 P w K mg base A outer s H →
    StX.Bnd (L2N.CX P w) P w K mg base fd args ps A outer s H E G → (∀ vs H2, G vs H2 → sM K m E Q vs H2) → codeAny (model P w) A (.call (.ref f) args) (CR (L2N.CX P w) outer P w H s Q E) s
theorem FnM.mono {P : Program} {w : World} {K : PySem.W.Frag} {mg : Str → Option Value} {base : Heap} {j k : Nat} {f : Addr} {fd : FuncData} {ps : List Str} {m : FL} (F : FnM P w K mg base j f fd ps m) (h : j ≤ k) : FnM P w K mg base k f fd ps m :=
  ⟨fun A outer s H args Q E G hr => F.run A outer s H args Q E G (hr.mono h)⟩
def st0 (n : Nat) (ds : List D) : En := ds.map some ++ List.replicate (n - ds.length) none
def SR.val (r : SR) : R D := match r with
  | .go .nx _ M => .ok .non M
  | .go (.ret d) _ M => .ok d M
  | .go _ _ _ => .no
  | .ex e _ M => .ex e M
  | .no => .no
/-- a body, run -/
def run (b : FStm) (n : Nat) : FL := fun ds M => (b (st0 n ds) M).val
theorem ev_start {K : PySem.W.Frag} {μ : Nat → Addr} {N : Nat} {H : Hp} {ds : List D} {vs : List V} (names : List Str) (q : DVs K μ N H ds vs) : EV K μ N H (st0 names.length ds) (L2.start names vs) := by
  refine ⟨by unfold L2.start st0; simp [q.length], fun i d h => ?_⟩
  unfold st0 at h
  unfold L2.start
  by_cases hi : i < ds.length
  · rw [List.getElem?_append_left (by simpa using hi), List.getElem?_map] at h
    cases e : ds[i]? with
    | none => rw [e] at h; cases h
    | some d' =>
      rw [e] at h; cases h
      obtain ⟨v, hv, dv⟩ := q.get e
      exact ⟨v, by rw [List.getElem?_append_left (by rw [List.length_map, q.length]; exact hi), List.getElem?_map, hv]; rfl, dv⟩
  · rw [List.getElem?_append_right (by simpa using Nat.le_of_not_lt hi), List.getElem?_replicate] at h
    split at h <;> cases h
theorem fnM_of {P : Program} {w : World} {K : PySem.W.Frag} {mg : Str → Option Value} {base : Heap} {k : Nat} {f : Addr} {fd : FuncData} {x qual : Str} {params : Arguments} {body : List Stmt} {scope : Scope} {dvs : List V} {kws : List (Str × V)} {N ps : List Str} {b : FStm}
    (F : FunD K x qual params body scope dvs kws f fd) (S : FnScope N ps scope)
    (hb : ∀ (cdv : Value) (A : Around) (outer : List Env) (s : Shared) (H : Hp) (E : XK), Room k (A.deeper (envOfC qual scope s.heap.objs.size f cdv)) → A.guards = some [] →
      MSs (cxOf (L2N.CX P w) P w K mg base N qual scope f cdv A outer s H E) (fun c d _ H' => E c d H') body b) : FnM P w K mg base (k + 1) f fd ps (run b N.length) := by
  obtain ⟨oc, od, dV, kV, doc, pm, an, cdv, ct, osl, rfl, lk, hcd, _, _⟩ := F.ex
  refine ⟨fun A outer s H args Q E G hr hg e0 hbnd hsp => ?_⟩
  refine StX.run_bnd lk hcd S hr e0 hbnd fun s2 H2 vs g hr2 => ⟨_, hb cdv A outer s2 H2 E hr2 hg, ?_⟩
  obtain ⟨μ, M, ds, r, q, a⟩ := hsp vs H2 g
  refine ⟨μ, M, _, r, ev_start N q, ?_⟩
  unfold run at a
  cases hg : b (st0 N.length ds) M with
  | go fl ρ' M' =>
    rw [hg] at a
    cases fl with
    | nx => exact fun μ' H' σ' l r' e' => a μ' H' .non l r' (by unfold DV; rfl)
    | ret d => exact a
    | bk => exact a.elim
    | ct => exact a.elim
  | ex e ρ' M' => rw [hg] at a; exact fun μ' H' σ' c d l r' e' x => a μ' H' c d l r' x
  | no => rw [hg] at a; exact a
section
variable {X : Cx} {W : WX} {k : Nat} {f C : Addr} {fd : FuncData} {ps : List Str} {m : FL}
/-- values that a call adds: defaults -/
structure Dfl (K : PySem.W.Frag) (dd : List D) (dv : List V) : Prop where
  rel : ∀ (μ : Nat → Addr) (N : Nat) (H : Hp), DVs K μ N H dd dv
theorem Dfl.nil {K : PySem.W.Frag} : Dfl K [] [] := ⟨fun _ _ _ => DVs.nil⟩
theorem Dfl.int {K : PySem.W.Frag} {i : Int} {dd : List D} {dv : List V} (h : Dfl K dd dv) : Dfl K (.int i :: dd) (.int i :: dv) := ⟨fun _ _ _ => DVs.cons (by unfold DV; rfl) (h.rel ..)⟩
theorem Dfl.bl {K : PySem.W.Frag} {i : Bool} {dd : List D} {dv : List V} (h : Dfl K dd dv) : Dfl K (.bl i :: dd) (.bl i :: dv) := ⟨fun _ _ _ => DVs.cons (by unfold DV; rfl) (h.rel ..)⟩
/-- how arguments come to parameters: n values by place, keywords ks; gD puts the data in the parameters' order -/
structure AB (P : Program) (w : World) (K : PySem.W.Frag) (mg : Str → Option Value) (base : Heap) (fd : FuncData) (ps : List Str) (n : Nat) (ks : List Str) (gD : List D → List D → List D) : Prop where
  bnd : ∀ (A : Around) (outer : List Env) (s : Shared) (H : Hp) (E : XK) (us ws : List Value) (vs zs : List V) (μ : Nat → Addr) (M : Mem) (ds es : List D), Env0 P w K mg base A outer s H → us.length = n → ws.length = ks.length → Vals vs us → Vals zs ws →
    Rel K μ M H → DVs K μ M.length H ds vs → DVs K μ M.length H es zs →
    StX.Bnd (L2N.CX P w) P w K mg base fd ⟨us, ks.zip ws⟩ ps A outer s H E (fun vs' H2 => Rel K μ M H2 ∧ Lift μ M.length H μ M.length H2 ∧ DVs K μ M.length H2 (gD ds es) vs')
section
variable {P : Program} {w : World} {K : PySem.W.Frag} {mg : Str → Option Value} {base : Heap}
theorem Env0.kin (e : Env0 P w K mg base A outer s H) : K.In s.heap := e.mod.kin.keeps fun b o q => (e.bs b o q).1
theorem AB.of_binds {fd : FuncData} {ps : List Str} {n : Nat} {du : List Value} {dv : List V} {dd : List D} (hb : Binds K fd ps du) (hd : Vals dv du) (hdd : Dfl K dd dv) (hn : n + dd.length = ps.length) : AB P w K mg base fd ps n [] (fun ds _ => ds ++ dd) := by
  refine ⟨fun A outer s H E us ws vs zs μ M ds es e0 l1 l2 rv rz r q qz A' Ex Q k => ?_⟩
  have r2 : Vals (vs ++ dv) (us ++ du) := rv.append hd
  have hl : (vs ++ dv).length = ps.length := by
    rw [List.length_append, rv.length, l1, (hdd.rel μ M.length H).length]; exact hn
  refine hb s us (Env0.kin e0) (by rw [← r2.length]; exact hl) _ _ _ _ ?_
  exact k s H _ _ e0 Un.refl rfl (fun _ _ z => z) r2 hl ⟨r, Lift.refl .., q.append (hdd.rel ..)⟩
theorem AB.of_kbn {fd : FuncData} {ps : List Str} {n : Nat} {ks : List Str} {g : List Value → List Value → List Value} {gV : List V → List V → List V} {gD : List D → List D → List D} (hb : KBn K fd ps n ks g gV)
    (hl : ∀ vs zs : List V, vs.length = n → zs.length = ks.length → (gV vs zs).length = ps.length)
    (hd : ∀ (μ : Nat → Addr) (N : Nat) (H : Hp) (ds : List D) (vs : List V) (es : List D) (zs : List V), DVs K μ N H ds vs → DVs K μ N H es zs → ds.length = n → es.length = ks.length → DVs K μ N H (gD ds es) (gV vs zs)) : AB P w K mg base fd ps n ks gD := by
  refine ⟨fun A outer s H E us ws vs zs μ M ds es e0 l1 l2 rv rz r q qz A' Ex Q k => ?_⟩
  refine hb.to s us ws (Env0.kin e0) l1 l2 _ _ _ _ ?_
  refine k s H _ _ e0 Un.refl rfl (fun _ _ z => z) (hb.rel rv rz) (hl _ _ (rv.length.trans l1) (rz.length.trans l2)) ⟨r, Lift.refl .., hd _ _ _ _ _ _ _ q qz ?_ ?_⟩
  · rw [← q.length, rv.length, l1]
  · rw [← qz.length, rz.length, l2]
theorem AB.of_star {fd : FuncData} {ps : List Str} {pv : Str} (n : Nat) (hn : ps.length ≤ n) (hz : n ≤ 1000)
    (hb : ∀ us rest : List Value, us.length = ps.length → bindArgs fd ⟨us ++ rest, []⟩ = (newTuple rest >>= fun t => pure (ps.zip us ++ [(pv, t)]))) : AB P w K mg base fd (ps ++ [pv]) n [] (fun ds _ => ds.take ps.length ++ [.tup (ds.drop ps.length)]) := by
  refine ⟨fun A outer s H E us ws vs zs μ M ds es e0 l1 l2 rv rz r q qz A' Ex Q k => ?_⟩
  have hu : us = us.take ps.length ++ us.drop ps.length := (List.take_append_drop ..).symm
  have hlu : (us.take ps.length).length = ps.length := by rw [List.length_take]; omega
  show wpAny _ _ (bindArgs fd ⟨us, []⟩) _ _ _
  rw [hu, hb _ _ hlu]
  have hld : (us.drop ps.length).length ≤ sizeLine := by
    rw [List.length_drop, l1]
    have : (1000 : Nat) ≤ sizeLine := by decide
    omega
  refine wpAny_bind (wpAny_newObj_type ?_ hld)
  refine wpAny_pure ?_
  have hfr : H s.heap.objs.size = Option.none := e0.hok.fresh (Nat.le_refl _)
  have new : ObjOk P w (upd H s.heap.objs.size (.tup (vs.drop ps.length))) (s.heap.push { cls := .type "tuple", data := .seq (us.drop ps.length).toArray }) s.heap.objs.size (.tup (vs.drop ps.length)) := by
    refine ⟨by rw [List.length_drop, rv.length, ← List.length_drop]; exact hld, us.drop ps.length, rv.drop _, ?_⟩
    exact IsTup.new s.heap _
  have e1 := StX.env0_laid e0 new
  have un : Un (frs outer) [] H (upd H s.heap.objs.size (.tup (vs.drop ps.length))) s.heap (s.heap.push { cls := .type "tuple", data := .seq (us.drop ps.length).toArray }) := StX.un_laid hfr
  have hz : (ps ++ [pv]).zip (us.take ps.length ++ [Value.ref s.heap.objs.size]) = ps.zip (us.take ps.length) ++ [(pv, Value.ref s.heap.objs.size)] := by
    rw [List.zip_append hlu.symm]; rfl
  rw [← hz]
  refine k { s with heap := s.heap.push { cls := .type "tuple", data := .seq (us.drop ps.length).toArray } } _ (vs.take ps.length ++ [V.ref s.heap.objs.size]) _ e1 un rfl (fun e s' z => ?_) ((rv.take _).append (.cons rfl .nil)) ?_ ⟨r.fresh hfr, Lift.fresh hfr, ?_⟩
  · exact upN outer s H { s with heap := s.heap.push { cls := .type "tuple", data := .seq (us.drop ps.length).toArray } } (upd H s.heap.objs.size (.tup (vs.drop ps.length))) E e s' un (fun b o q => Heap.get?_push_of_some _ q) rfl z
  · rw [List.length_append, List.length_append, List.length_take, rv.length, l1]
    simp only [List.length_singleton]; omega
  · refine ((q.take _).lift (Lift.fresh hfr)).append (DVs.cons ?_ DVs.nil)
    unfold DV
    exact ⟨_, _, rfl, SqT.of upd_same, (q.drop _).lift (Lift.fresh hfr)⟩
end
theorem run_m {pins : List (Addr × Obj)} {σ : L2.St} {H : Hp} {s : Shared} {Q : VK} {us ws : List Value} {vs zs : List V} {n : Nat} {ks : List Str} {gD : List D → List D → List D} {μ : Nat → Addr} {M : Mem} {ds es : List D} (F : FnM X.prog X.w X.K X.mg X.base k f fd ps m) (hab : AB X.prog X.w X.K X.mg X.base fd ps n ks gD)
    (hr : Room k X.A) (hg : X.A.guards = some []) (tk : L2N.Takes X W) (I : Inv X pins σ H s) (rv : Vals vs us) (rz : Vals zs ws) (r : Rel X.K μ M H) (q : DVs X.K μ M.length H ds vs) (qz : DVs X.K μ M.length H es zs) (l1 : ds.length = n) (l2 : es.length = ks.length)
    (a : Ans X.K (DV X.K) (fun c d H' => W c d σ H') μ M.length H (m (gD ds es) M) Q) : wpAny (model X.prog X.w) X.A (call (.ref f) us (ks.zip ws)) (EP X pins σ Q) X.xe s := by
  have hb := hab.bnd X.A X.stack s H (fun c d H' => W c d σ H') us ws vs zs μ M ds es I.env0 (by rw [← rv.length, q.length, l1]) (by rw [← rz.length, qz.length, l2]) rv rz r q qz
  refine wpAny_call (codeAny_mono (F.run X.A X.stack s H _ Q _ _ hr hg I.env0 hb fun v H2 ⟨r2, l, q2⟩ => ⟨μ, M, _, r2, q2, Ans.rebase l a⟩) fun r s' hq => ?_)
  cases r with
  | error e => exact tk e s' (L2N.XE.of_call I (fun _ _ _ z => z) hq)
  | ok fl =>
    cases fl with
    | ret u => exact I.after hq
    | next => exact False.elim hq
    | brk => exact False.elim hq
    | cont => exact False.elim hq
def gCall (n : Nat) (gD : List D → List D → List D) (m : FL) : FL := fun ds M => if ds.length = n then m (gD ds []) M else .no
theorem me_call {x : Str} {p pos : Pos} {e : Expr} {es : List Expr} {g : FA} {n : Nat} {gD : List D → List D → List D} (F : FnM X.prog X.w X.K X.mg X.base k f fd ps m) (hab : AB X.prog X.w X.K X.mg X.base fd ps n [] gD) (hr : Room k X.A) (hgd : X.A.guards = some []) (tk : L2N.Takes X W) (hg : Gl X x) (hm : X.mg x = some (.ref f))
    (hk : PySem.W.keepIn X.K (.ref f) = true) (ha : MA X W (e :: es) g) (hdb : (x == ("__debug__" : Str)) = false := by decide)
    (he : starEach (e :: es) X.env = (false, eval e X.env) :: starEach es X.env := by rfl) (hpl : (backTo pos (starEach es X.env)).any (·.1) = false := by rfl) : ME X W (.Call (.Name x p) (e :: es) [] pos) (eL (gCall n gD m) g) := by
  refine ⟨fun pins s σ H Q I h => ?_⟩
  refine wpAny_Call_Name_kw (ld_glob I hg hm ?_ hdb)
  refine PySem.W.callWith_K (h₀ := X.base) I.ok.mod.kin hk (thn (ha.run pos pins s σ H _ I (tM.seq (rel := DVs X.K) h)) fun us s1 ⟨vs, H1, I1, r, q⟩ => ⟨I1.kIn, ?_⟩) he hpl
  obtain ⟨μ, M, ρ, ds, r1, e1, q1, a⟩ := q
  unfold gCall at a
  split at a
  · rename_i hl
    exact run_m (ws := []) (zs := []) (es := []) F hab hr hgd tk I1 r .nil r1 q1 DVs.nil hl rfl a
  · exact a.elim
theorem me_call0 {x : Str} {p pos : Pos} {gD : List D → List D → List D} (F : FnM X.prog X.w X.K X.mg X.base k f fd ps m) (hab : AB X.prog X.w X.K X.mg X.base fd ps 0 [] gD) (hr : Room k X.A) (hgd : X.A.guards = some []) (tk : L2N.Takes X W) (hg : Gl X x) (hm : X.mg x = some (.ref f))
    (hk : PySem.W.keepIn X.K (.ref f) = true) (hdb : (x == ("__debug__" : Str)) = false := by decide) : ME X W (.Call (.Name x p) [] [] pos) (eL (gCall 0 gD m) aN) := by
  refine ⟨fun pins s σ H Q I ⟨μ, M, ρ, r1, e1, a⟩ => ?_⟩
  refine wpAny_Call_Name_kw (ld_glob I hg hm ?_ hdb)
  exact PySem.W.callWith_K0 I.kIn hk (run_m (us := []) (ws := []) (zs := []) (es := []) F hab hr hgd tk I .nil .nil r1 DVs.nil DVs.nil rfl rfl a)
/-- keywords' values -/
def MK (X : Cx) (W : WX) (kws : List Keyword) (g : FA) : Prop := PK X kws (tM X.K (DVs X.K) W g)
theorem PK.weak {kws : List Keyword} {t t' : TA} (h : PK X kws t) (w : ∀ σ H Q, t' σ H Q → t σ H Q) : PK X kws t' := ⟨fun p pins s σ H Q I hw => h.run p pins s σ H Q I (w σ H Q hw)⟩
theorem mk_nil : MK X W [] aN := PK.weak pk_nil fun σ H Q ⟨μ, M, ρ, r, e, q⟩ => q μ H [] (Lift.refl ..) r DVs.nil
theorem mk_cons {e : Expr} {f : FE} {g : FA} {kws : List Keyword} {nm : Option Str} {kpos : Pos} (ha : ME X W e f) (hr : MK X W kws g) : MK X W (⟨nm, e, kpos⟩ :: kws) (aC f g) := by
  refine PK.weak (pk_cons ha hr) fun σ H Q h => ?_
  refine tM.mono (fun v H1 ⟨μ, M, ρ, d, r, e, q, a1⟩ => ?_) (tM.seq (rel := DV X.K) h)
  have a2 := Ans.bind (rel := DVs X.K) a1
  refine ⟨μ, M, ρ, r, e, a2.mono (fun u H2 ⟨μ1, M1, d1, l, r1, q1, a3⟩ => ?_) fun _ _ _ z => z⟩
  exact a3 μ1 H2 _ (Lift.refl ..) r1 (DVs.cons (q.lift l) q1)
def eK (n m' : Nat) (gD : List D → List D → List D) (m : FL) (a b : FA) : FE := fun ρ M => (a ρ M).bind fun ds M1 => (b ρ M1).bind fun es M2 => if ds.length = n ∧ es.length = m' then m (gD ds es) M2 else .no
theorem me_callK {x : Str} {p pos : Pos} {e : Expr} {es : List Expr} {kws : List Keyword} {g g' : FA} {n : Nat} {ks : List Str} {gD : List D → List D → List D} (F : FnM X.prog X.w X.K X.mg X.base k f fd ps m) (hab : AB X.prog X.w X.K X.mg X.base fd ps n ks gD) (hr : Room k X.A) (hgd : X.A.guards = some []) (tk : L2N.Takes X W) (hg : Gl X x) (hm : X.mg x = some (.ref f))
    (hk : PySem.W.keepIn X.K (.ref f) = true) (ha : MA X W (e :: es) g) (hkw : MK X W kws g') (hall : (backToKw pos (keywordEach kws X.env)).all (·.1.isSome) = true := by rfl) (hks : (backToKw pos (keywordEach kws X.env)).filterMap (·.1) = ks := by rfl)
    (hdb : (x == ("__debug__" : Str)) = false := by decide) (he : starEach (e :: es) X.env = (false, eval e X.env) :: starEach es X.env := by rfl) (hpl : ((backTo pos (starEach (e :: es) X.env)).any (·.1) || (backToKw pos (keywordEach kws X.env)).any (·.1.isNone)) = false := by rfl) :
    ME X W (.Call (.Name x p) (e :: es) kws pos) (eK n ks.length gD m g g') := by
  refine ⟨fun pins s σ H Q I h => ?_⟩
  refine wpAny_Call_Name_kw (ld_glob I hg hm ?_ hdb)
  refine PySem.W.callWith_KW (h₀ := X.base) I.ok.mod.kin hk hall (thn (ha.run pos pins s σ H _ I (tM.seq (rel := DVs X.K) h)) fun us s1 ⟨vs, H1, I1, r, q⟩ => ?_) hpl he
  obtain ⟨μ, M, ρ, ds, r1, e1, q1, a⟩ := q
  have a2 := Ans.bind (rel := DVs X.K) a
  refine thn (hkw.run pos pins s1 σ H1 _ I1 ⟨μ, M, ρ, r1, e1, a2⟩) fun ws s2 ⟨zs, H2, I2, rz, q2⟩ => ⟨I2.kIn, ?_⟩
  obtain ⟨μ2, M2, es2, l, r2, q2, a3⟩ := q2
  rw [hks]
  split at a3
  · rename_i hl
    exact run_m F hab hr hgd tk I2 r rz r2 (q1.lift l) q2 hl.1 hl.2 a3
  · exact a3.elim
theorem me_callK0 {x : Str} {p pos : Pos} {kws : List Keyword} {g' : FA} {ks : List Str} {gD : List D → List D → List D} (F : FnM X.prog X.w X.K X.mg X.base k f fd ps m) (hab : AB X.prog X.w X.K X.mg X.base fd ps 0 ks gD) (hr : Room k X.A) (hgd : X.A.guards = some []) (tk : L2N.Takes X W) (hg : Gl X x) (hm : X.mg x = some (.ref f))
    (hk : PySem.W.keepIn X.K (.ref f) = true) (hkw : MK X W kws g') (hall : (backToKw pos (keywordEach kws X.env)).all (·.1.isSome) = true := by rfl) (hks : (backToKw pos (keywordEach kws X.env)).filterMap (·.1) = ks := by rfl)
    (hdb : (x == ("__debug__" : Str)) = false := by decide) (hpl : ((backTo pos (starEach [] X.env)).any (·.1) || (backToKw pos (keywordEach kws X.env)).any (·.1.isNone)) = false := by rfl) :
    ME X W (.Call (.Name x p) [] kws pos) (eK 0 ks.length gD m aN g') := by
  refine ⟨fun pins s σ H Q I h => ?_⟩
  refine wpAny_Call_Name_kw (ld_glob I hg hm ?_ hdb)
  refine PySem.W.callWith_KW0 (h₀ := X.base) I.ok.mod.kin hk hall ?_ hpl
  obtain ⟨μ, M, ρ, r1, e1, a⟩ := h
  have a2 := Ans.bind (r := g' ρ M) (rel := DVs X.K) (g := fun es M2 => if ([] : List D).length = 0 ∧ es.length = ks.length then m (gD [] es) M2 else .no) a
  refine thn (hkw.run pos pins s σ H _ I ⟨μ, M, ρ, r1, e1, a2⟩) fun ws s2 ⟨zs, H2, I2, rz, q2⟩ => ⟨I2.kIn, ?_⟩
  obtain ⟨μ2, M2, es2, l, r2, q2, a3⟩ := q2
  rw [hks]
  split at a3
  · rename_i hl
    exact run_m (us := []) F hab hr hgd tk I2 .nil rz r2 (DVs.nil) q2 hl.1 hl.2 a3
  · exact a3.elim
end
end Br
end
section
namespace Br
open PySem PySem.Spec PyProof.Rows L2
/-! ### numbers -/
def gAdd : F2 := fun a b M => match a, b with
  | .int i, .int j => .ok (.int (i + j)) M
  | .str x, .str y => if x.length + y.length ≤ sizeLine then .ok (.str (x ++ y)) M else .no
  | .tup xs, .tup ys => if xs.length + ys.length ≤ sizeLine then .ok (.tup (xs ++ ys)) M else .no
  | _, _ => .no
def gSub : F2 := fun a b M => match a, b with
  | .int i, .int j => .ok (.int (i - j)) M
  | _, _ => .no
def mulOk (i j : Int) : Bool := decide ((-(2 ^ 64) < i ∧ i < 2 ^ 64) ∨ (-(2 ^ 64) < j ∧ j < 2 ^ 64) ∨ (i.natAbs < 2 ^ 400 ∧ j.natAbs < 2 ^ 400))
def gMul : F2 := fun a b M => match a, b with
  | .int i, .int j => if mulOk i j = true then .ok (.int (i * j)) M else .no
  | .tup xs, .int k => if xs ≠ [] ∧ 2 ≤ k ∧ k ≤ 1000 ∧ xs.length ≤ 1000 then .ok (.tup (List.replicate k.toNat xs).flatten) M else if k = 1 then .ok (.tup xs) M else .no
  | _, _ => .no
def gFdiv : F2 := fun a b M => match a, b with
  | .int i, .int j => if 0 < j ∧ j < 2 ^ 64 then .ok (.int (i / j)) M else .no
  | _, _ => .no
def gMod : F2 := fun a b M => match a, b with
  | .int i, .int j => if 0 < j then .ok (.int (i % j)) M else .no
  | _, _ => .no
def gPow : F2 := fun a b M => match a, b with
  | .int i, .int j => if 0 ≤ j ∧ j ≤ 1000 ∧ i.natAbs < 2 ^ 200 then .ok (.int (i ^ j.toNat)) M else .no
  | _, _ => .no
def gNeg : F1 := fun a M => match a with
  | .int i => .ok (.int (-i)) M
  | _ => .no
theorem ans_pure {K : PySem.W.Frag} {W : W0} {μ : Nat → Addr} {M : Mem} {H : Hp} {d : D} {v : V} {Q : VK} (r : Rel K μ M H) (q : DV K μ M.length H d v) (a : Ans K (DV K) W μ M.length H (.ok d M) Q) : Q v H := a μ H v (Lift.refl ..) r q
theorem dv_int {K : PySem.W.Frag} {μ : Nat → Addr} {N : Nat} {H : Hp} {i : Int} : DV K μ N H (.int i) (.int i) := by unfold DV; rfl
theorem dv_bl {K : PySem.W.Frag} {μ : Nat → Addr} {N : Nat} {H : Hp} {i : Bool} : DV K μ N H (.bl i) (.bl i) := by unfold DV; rfl
theorem dv_str {K : PySem.W.Frag} {μ : Nat → Addr} {N : Nat} {H : Hp} {i : Str} : DV K μ N H (.str i) (.str i) := by unfold DV; rfl
theorem dv_non {K : PySem.W.Frag} {μ : Nat → Addr} {N : Nat} {H : Hp} : DV K μ N H .non .non := by unfold DV; rfl
theorem int_dv {K : PySem.W.Frag} {μ : Nat → Addr} {N : Nat} {H : Hp} {i : Int} {v : V} (h : DV K μ N H (.int i) v) : v = .int i := by unfold DV at h; exact h
theorem bl_dv {K : PySem.W.Frag} {μ : Nat → Addr} {N : Nat} {H : Hp} {i : Bool} {v : V} (h : DV K μ N H (.bl i) v) : v = .bl i := by unfold DV at h; exact h
theorem str_dv {K : PySem.W.Frag} {μ : Nat → Addr} {N : Nat} {H : Hp} {i : Str} {v : V} (h : DV K μ N H (.str i) v) : v = .str i := by unfold DV at h; exact h
theorem non_dv {K : PySem.W.Frag} {μ : Nat → Addr} {N : Nat} {H : Hp} {v : V} (h : DV K μ N H .non v) : v = .non := by unfold DV at h; exact h
theorem tup_dv {K : PySem.W.Frag} {μ : Nat → Addr} {N : Nat} {H : Hp} {ds : List D} {v : V} (h : DV K μ N H (.tup ds) v) : ∃ a xs, v = .ref a ∧ SqT K H a xs ∧ DVs K μ N H ds xs := by unfold DV at h; exact h
theorem lst_dv {K : PySem.W.Frag} {μ : Nat → Addr} {N : Nat} {H : Hp} {ds : List D} {v : V} (h : DV K μ N H (.lst ds) v) : ∃ a xs, v = .ref a ∧ SqF K H a xs ∧ DVs K μ N H ds xs := by unfold DV at h; exact h
theorem ref_dv {K : PySem.W.Frag} {μ : Nat → Addr} {N : Nat} {H : Hp} {n : Nat} {v : V} (h : DV K μ N H (.ref n) v) : n < N ∧ v = .ref (μ n) := by unfold DV at h; exact h
theorem dv_tup {K : PySem.W.Frag} {μ : Nat → Addr} {N : Nat} {H : Hp} {ds : List D} {a : Addr} {xs : List V} (s : SqT K H a xs) (q : DVs K μ N H ds xs) : DV K μ N H (.tup ds) (.ref a) := by unfold DV; exact ⟨a, xs, rfl, s, q⟩
theorem dv_lst {K : PySem.W.Frag} {μ : Nat → Addr} {N : Nat} {H : Hp} {ds : List D} {a : Addr} {xs : List V} (s : SqF K H a xs) (q : DVs K μ N H ds xs) : DV K μ N H (.lst ds) (.ref a) := by unfold DV; exact ⟨a, xs, rfl, s, q⟩
section
variable {X : Cx}
theorem DVs.ne_nil {K : PySem.W.Frag} {μ : Nat → Addr} {N : Nat} {H : Hp} {ds : List D} {vs : List V} (h : DVs K μ N H ds vs) : vs = [] ↔ ds = [] := by
  have e := h.length
  cases ds <;> cases vs <;> simp_all
theorem om_add : OpM X (binaryOp .Add) gAdd := by
  intro W pins s σ H x y v u Q I rx ry ⟨μ, M, a, b, r, qa, qb, an⟩
  unfold gAdd at an
  split at an
  · rw [int_dv qa] at rx; rw [int_dv qb] at ry
    exact op_add pins s σ H _ _ v u Q I rx ry ⟨_, _, rfl, rfl, ans_pure r dv_int an⟩
  · split at an
    · rename_i hl
      rw [str_dv qa] at rx; rw [str_dv qb] at ry
      exact op_add_str pins s σ H _ _ v u Q I rx ry ⟨_, _, rfl, rfl, hl, ans_pure r dv_str an⟩
    · exact an.elim
  · split at an
    · rename_i xs ys hl
      obtain ⟨a1, x1, e1, s1, d1⟩ := tup_dv qa
      obtain ⟨a2, x2, e2, s2, d2⟩ := tup_dv qb
      subst e1; subst e2
      refine op_catA pins s σ H _ _ v u Q I rx ry ⟨a1, a2, x1, x2, rfl, rfl, s1, s2, by rw [d1.length, d2.length]; exact hl, fun z => ?_, fun _ z => ?_, fun _ _ p hp => ?_⟩
      · have := d1.ne_nil.mp z; subst this
        exact ans_pure r qb an
      · have := d2.ne_nil.mp z; subst this
        rw [List.append_nil] at an
        exact ans_pure r qa an
      · exact ans_tup r (d1.append d2) an p hp
    · exact an.elim
  · exact an.elim
theorem om_sub : OpM X (binaryOp .Sub) gSub := by
  intro W pins s σ H x y v u Q I rx ry ⟨μ, M, a, b, r, qa, qb, an⟩
  unfold gSub at an
  split at an
  · rw [int_dv qa] at rx; rw [int_dv qb] at ry
    exact op_sub pins s σ H _ _ v u Q I rx ry ⟨_, _, rfl, rfl, ans_pure r dv_int an⟩
  · exact an.elim
theorem op_mulX : OpR X (binaryOp .Mult) (rI (fun i j => mulOk i j = true) fun i j => .int (i * j)) := by
  intro pins s σ H x y v u Q I rx ry ⟨i, j, e1, e2, h, q⟩
  have h : (-(2 ^ 64) < i ∧ i < 2 ^ 64) ∨ (-(2 ^ 64) < j ∧ j < 2 ^ 64) ∨ (i.natAbs < 2 ^ 400 ∧ j.natAbs < 2 ^ 400) := of_decide_eq_true h
  rcases h with h | h | h
  · exact op_mul pins s σ H x y v u Q I rx ry ⟨i, j, e1, e2, .inl h, q⟩
  · exact op_mul pins s σ H x y v u Q I rx ry ⟨i, j, e1, e2, .inr h, q⟩
  · exact op_mulW pins s σ H x y v u Q I rx ry ⟨i, j, e1, e2, wide_mul h.1 h.2 (by decide) (by decide) (by decide), q⟩
theorem mul_one_tuple {prog : Program} {w : World} {A : Around} {E : Value → Shared → Prop} {s : Shared} : True := trivial
theorem intBits_le (i : Int) : Builtin.Int.intBits i ≤ i.natAbs.log2 + 1 := by
  unfold Builtin.Int.intBits
  split <;> omega
theorem op_powX : OpR X (binaryOp .Pow) (rI (fun i j => 0 ≤ j ∧ j ≤ 1000 ∧ i.natAbs < 2 ^ 200) fun i j => .int (i ^ j.toNat)) := by
  intro pins s σ H x y v u Q I rx ry ⟨i, j, e1, e2, ⟨h1, h2, h3⟩, q⟩
  subst e1; subst e2
  obtain ⟨t, rfl⟩ := rx
  obtain ⟨t', rfl⟩ := ry
  refine pow_int h1 ?_ ⟨.int _, H, I.tok _, ⟨_, rfl⟩, q⟩
  have l1 := intBits_le i
  have l2 : i.natAbs.log2 < 200 := PySem.Flt.log2_lt_of (by decide) h3
  have l3 : Builtin.Int.intBits i ≤ 200 := by omega
  have l4 : ((Builtin.Int.intBits i : Nat) : Int) ≤ 200 := by omega
  have : ((Builtin.Int.intBits i : Nat) : Int) * j ≤ 200 * 1000 := Int.mul_le_mul l4 h2 h1 (by decide)
  omega
theorem om_fdiv : OpM X (binaryOp .FloorDiv) gFdiv := by
  intro W pins s σ H x y v u Q I rx ry ⟨μ, M, a, b, r, qa, qb, an⟩
  unfold gFdiv at an
  split at an
  · split at an
    · rename_i i j h
      rw [int_dv qa] at rx; rw [int_dv qb] at ry
      refine op_fdivW pins s σ H _ _ v u Q I rx ry ⟨_, _, rfl, rfl, wide_div (b := 64) h.1 ?_ (by decide) (by decide), ans_pure r dv_int an⟩
      have := h.2
      omega
    · exact an.elim
  · exact an.elim
theorem om_mod : OpM X (binaryOp .Mod) gMod := by
  intro W pins s σ H x y v u Q I rx ry ⟨μ, M, a, b, r, qa, qb, an⟩
  unfold gMod at an
  split at an
  · split at an
    · rename_i h
      rw [int_dv qa] at rx; rw [int_dv qb] at ry
      exact op_mod pins s σ H _ _ v u Q I rx ry ⟨_, _, rfl, rfl, h, ans_pure r dv_int an⟩
    · exact an.elim
  · exact an.elim
theorem om_pow : OpM X (binaryOp .Pow) gPow := by
  intro W pins s σ H x y v u Q I rx ry ⟨μ, M, a, b, r, qa, qb, an⟩
  unfold gPow at an
  split at an
  · split at an
    · rename_i h
      rw [int_dv qa] at rx; rw [int_dv qb] at ry
      exact op_powX pins s σ H _ _ v u Q I rx ry ⟨_, _, rfl, rfl, h, ans_pure r dv_int an⟩
    · exact an.elim
  · exact an.elim
theorem um_neg : UnM X (unaryOp .USub) gNeg := by
  intro W pins s σ H x v Q I rx ⟨μ, M, a, r, qa, an⟩
  unfold gNeg at an
  split at an
  · rw [int_dv qa] at rx
    exact un_neg pins s σ H _ v Q I rx ⟨_, rfl, ans_pure r dv_int an⟩
  · exact an.elim
/-! ### comparisons of numbers -/
def gI (p : Int → Int → Bool) : F2 := fun a b M => match a, b with
  | .int i, .int j => .ok (.bl (p i j)) M
  | _, _ => .no
theorem om_int {f : Value → Value → Sem Value} {p : Int → Int → Bool} (h : OpR X f (rI0 fun i j => .bl (p i j))) : OpM X f (gI p) := by
  intro W pins s σ H x y v u Q I rx ry ⟨μ, M, a, b, r, qa, qb, an⟩
  unfold gI at an
  split at an
  · rw [int_dv qa] at rx; rw [int_dv qb] at ry
    exact h pins s σ H _ _ v u Q I rx ry ⟨_, _, rfl, rfl, ans_pure r dv_bl an⟩
  · exact an.elim
def gLt : F2 := gI fun i j => decide (i < j)
def gLe : F2 := gI fun i j => decide (i ≤ j)
def gGt : F2 := gI fun i j => decide (j < i)
def gGe : F2 := gI fun i j => decide (j ≤ i)
theorem om_lt : OpM X (compareOp .Lt) gLt := om_int op_lt
theorem om_le : OpM X (compareOp .LtE) gLe := om_int op_le
theorem om_gt : OpM X (compareOp .Gt) gGt := om_int op_gt
theorem om_ge : OpM X (compareOp .GtE) gGe := om_int op_ge
/-! ### data -/
end
mutual
def toPyR (rs : Nat → Option PyData) : D → Option PyData
  | .non => some .none
  | .bl b => some (.bool b)
  | .int i => some (.int i)
  | .str x => some (.str x)
  | .tup xs => (toPysR rs xs).map .tuple
  | .lst xs => (toPysR rs xs).map .list
  | .ref n => rs n
  | .gl _ => none
  | .ty _ => none
  | .ptp _ => none
  | .exc _ _ _ => none
  | .adr _ _ => none
def toPysR (rs : Nat → Option PyData) : List D → Option (List PyData)
  | [] => some []
  | d :: ds => (toPyR rs d).bind fun p => (toPysR rs ds).map (p :: ·)
end
def rsN (M : Mem) : Nat → Nat → Option PyData
  | 0 => fun _ => none
  | k + 1 => fun n => match M[n]? with
    | some (.lst ds) => (toPysR (rsN M k) ds).map .list
    | _ => none
def toPy (M : Mem) : D → Option PyData := toPyR (rsN M 3)
section
variable {K : PySem.W.Frag} {μ : Nat → Addr} {M : Mem} {H : Hp}
mutual
theorem toPyR_ok {rs : Nat → Option PyData} (hr : ∀ n p, n < M.length → rs n = some p → Dp K H (.ref (μ n)) p) : ∀ (d : D) (v : V) (p : PyData), DV K μ M.length H d v → toPyR rs d = some p → Dp K H v p
  | .non, v, p, q, h => by rw [non_dv q]; unfold toPyR at h; cases h; exact .non
  | .bl b, v, p, q, h => by rw [bl_dv q]; unfold toPyR at h; cases h; exact .bl b
  | .int b, v, p, q, h => by rw [int_dv q]; unfold toPyR at h; cases h; exact .int b
  | .str b, v, p, q, h => by rw [str_dv q]; unfold toPyR at h; cases h; exact .str b
  | .tup xs, v, p, q, h => by
    obtain ⟨a, vs, e, s, ds⟩ := tup_dv q
    subst e
    unfold toPyR at h
    cases e : toPysR rs xs with
    | none => rw [e] at h; cases h
    | some ps => rw [e] at h; cases h; exact .tup s (toPysR_ok hr xs vs ps ds e)
  | .lst xs, v, p, q, h => by
    obtain ⟨a, vs, e, s, ds⟩ := lst_dv q
    subst e
    unfold toPyR at h
    cases e : toPysR rs xs with
    | none => rw [e] at h; cases h
    | some ps => rw [e] at h; cases h; exact .lst s.seq (toPysR_ok hr xs vs ps ds e)
  | .ref n, v, p, q, h => by
    obtain ⟨hn, e⟩ := ref_dv q
    subst e
    unfold toPyR at h
    exact hr n p hn h
  | .gl x, v, p, q, h => by unfold toPyR at h; cases h
  | .ty x, v, p, q, h => by unfold toPyR at h; cases h
  | .ptp x, v, p, q, h => by unfold toPyR at h; cases h
  | .exc x y z, v, p, q, h => by unfold toPyR at h; cases h
  | .adr x y, v, p, q, h => by unfold toPyR at h; cases h
theorem toPysR_ok {rs : Nat → Option PyData} (hr : ∀ n p, n < M.length → rs n = some p → Dp K H (.ref (μ n)) p) : ∀ (ds : List D) (vs : List V) (ps : List PyData), DVs K μ M.length H ds vs → toPysR rs ds = some ps → DpAll K H vs ps
  | [], vs, ps, q, h => by rw [q.inv_nil]; unfold toPysR at h; cases h; exact .nil
  | d :: ds, vs, ps, q, h => by
    obtain ⟨v, r, e, q1, q2⟩ := q.inv_cons
    subst e
    unfold toPysR at h
    cases e1 : toPyR rs d with
    | none => rw [e1] at h; cases h
    | some p =>
      rw [e1] at h
      cases e2 : toPysR rs ds with
      | none => rw [e2] at h; cases h
      | some ps' => rw [e2] at h; cases h; exact .cons (toPyR_ok hr d v p q1 e1) (toPysR_ok hr ds r ps' q2 e2)
end
theorem rsN_ok (r : Rel K μ M H) : ∀ (k n : Nat) (p : PyData), n < M.length → rsN M k n = some p → Dp K H (.ref (μ n)) p
  | 0, n, p, hn, h => by unfold rsN at h; cases h
  | k + 1, n, p, hn, h => by
    unfold rsN at h
    split at h
    · rename_i ds hd
      obtain ⟨xs, h1, h2⟩ := r.obj n _ hd
      cases e : toPysR (rsN M k) ds with
      | none => rw [e] at h; cases h
      | some ps => rw [e] at h; cases h; exact .lst (SqL.of h1) (toPysR_ok (fun n p => rsN_ok r k n p) ds xs ps h2 e)
    · cases h
theorem toPy_ok (r : Rel K μ M H) {d : D} {v : V} {p : PyData} (q : DV K μ M.length H d v) (h : toPy M d = some p) : Dp K H v p := toPyR_ok (rsN_ok r 3) d v p q h
end
/-- == of data -/
def eqD (M : Mem) (a b : D) : Option Bool := match a, b with
  | .int i, .int j => some (decide (i = j))
  | .str x, .str y => some (decide (x = y))
  | .non, .non => some true
  | .bl x, .bl y => some (x == y)
  | _, _ => (match toPy M a, toPy M b with
    | some p, some q => if SeqAt.shaped p && SeqAt.shaped q then some (PyData.eqv p q) else none
    | _, _ => none)
def gEq : F2 := fun a b M => match eqD M a b with
  | some k => .ok (.bl k) M
  | none => .no
def gNe : F2 := fun a b M => match eqD M a b with
  | some k => .ok (.bl (!k)) M
  | none => .no
section
variable {X : Cx}
theorem eqD_ok {K : PySem.W.Frag} {μ : Nat → Addr} {M : Mem} {H : Hp} {a b : D} {x y : V} {k : Bool} (r : Rel K μ M H) (qa : DV K μ M.length H a x) (qb : DV K μ M.length H b y) (h : eqD M a b = some k) :
    (scal x y = true ∧ k = decide (x = y)) ∨ ∃ d e, Dp K H x d ∧ Dp K H y e ∧ SeqAt.shaped d = true ∧ SeqAt.shaped e = true ∧ k = PyData.eqv d e := by
  unfold eqD at h
  split at h
  · rw [int_dv qa, int_dv qb]; cases h
    refine .inl ⟨rfl, ?_⟩
    rw [Bool.eq_iff_iff]; simp
  · rw [str_dv qa, str_dv qb]; cases h
    refine .inl ⟨rfl, ?_⟩
    rw [Bool.eq_iff_iff]; simp
  · rw [non_dv qa, non_dv qb]; cases h; exact .inl ⟨rfl, rfl⟩
  · rw [bl_dv qa, bl_dv qb]; cases h
    refine .inl ⟨rfl, ?_⟩
    rw [Bool.eq_iff_iff]; simp
  · split at h
    · rename_i p q hp hq
      split at h
      · rename_i hs
        cases h
        have hs := Bool.and_eq_true_iff.mp hs
        exact .inr ⟨p, q, toPy_ok r qa hp, toPy_ok r qb hq, hs.1, hs.2, rfl⟩
      · cases h
    · cases h
theorem om_eq (hu : X.A.units + 64 < cLine) : OpM X (compareOp .Eq) gEq := by
  intro W pins s σ H x y v u Q I rx ry ⟨μ, M, a, b, r, qa, qb, an⟩
  unfold gEq at an
  split at an
  · rename_i k hk
    rcases eqD_ok r qa qb hk with ⟨h, e⟩ | ⟨d, e, h1, h2, h3, h4, h5⟩
    · subst e
      exact op_eq pins s σ H x y v u Q I rx ry ⟨h, ans_pure r dv_bl an⟩
    · subst h5
      exact op_eqD hu pins s σ H x y v u Q I rx ry ⟨d, e, h1, h2, h3, h4, ans_pure r dv_bl an⟩
  · exact an.elim
theorem om_ne (hu : X.A.units + 64 < cLine) : OpM X (compareOp .NotEq) gNe := by
  intro W pins s σ H x y v u Q I rx ry ⟨μ, M, a, b, r, qa, qb, an⟩
  unfold gNe at an
  split at an
  · rename_i k hk
    rcases eqD_ok r qa qb hk with ⟨h, e⟩ | ⟨d, e, h1, h2, h3, h4, h5⟩
    · subst e
      exact op_ne pins s σ H x y v u Q I rx ry ⟨h, ans_pure r dv_bl an⟩
    · subst h5
      exact op_neD hu pins s σ H x y v u Q I rx ry ⟨d, e, h1, h2, h3, h4, ans_pure r dv_bl an⟩
  · exact an.elim
/-- repr of data -/
def gRepr : FL := fun ds M => match ds with
  | [d] => (match toPy M d with
    | some p => if p.showable && !p.hasDict && decide (p.depth ≤ 64) && decide (p.shown.length ≤ sizeLine) then .ok (.str p.shown) M else .no
    | none => .no)
  | _ => .no
end
/-! ### sequences -/
def seqL (M : Mem) : D → Option (List D)
  | .lst xs => some xs
  | .ref n => (match M[n]? with
    | some (.lst xs) => some xs
    | _ => none)
  | _ => none
theorem seqL_ok {K : PySem.W.Frag} {μ : Nat → Addr} {M : Mem} {H : Hp} {d : D} {v : V} {ds : List D} (r : Rel K μ M H) (q : DV K μ M.length H d v) (h : seqL M d = some ds) : ∃ a xs, v = .ref a ∧ SqL K H a xs ∧ DVs K μ M.length H ds xs := by
  cases d with
  | lst ds' =>
    cases h
    obtain ⟨a, xs, e, s, t⟩ := lst_dv q
    exact ⟨a, xs, e, s.seq, t⟩
  | ref n =>
    obtain ⟨hn, e⟩ := ref_dv q
    unfold seqL at h
    dsimp only at h
    split at h
    · rename_i hx
      cases h
      obtain ⟨xs, h1, h2⟩ := r.obj n _ hx
      exact ⟨_, xs, e, SqL.of h1, h2⟩
    · cases h
  | _ => cases h
/-- a list's items or a tuple's -/
def seqA (M : Mem) : D → Option (List D)
  | .tup xs => some xs
  | d => seqL M d
theorem seqA_ok {K : PySem.W.Frag} {μ : Nat → Addr} {M : Mem} {H : Hp} {d : D} {v : V} {ds : List D} (r : Rel K μ M H) (q : DV K μ M.length H d v) (h : seqA M d = some ds) : ∃ a xs, v = .ref a ∧ (SqL K H a xs ∨ SqT K H a xs) ∧ DVs K μ M.length H ds xs := by
  cases d with
  | tup ds' =>
    cases h
    obtain ⟨a, xs, e, s, t⟩ := tup_dv q
    exact ⟨a, xs, e, .inr s, t⟩
  | lst ds' => obtain ⟨a, xs, e, s, t⟩ := seqL_ok r q h; exact ⟨a, xs, e, .inl s, t⟩
  | ref n => obtain ⟨a, xs, e, s, t⟩ := seqL_ok r q h; exact ⟨a, xs, e, .inl s, t⟩
  | _ => cases h
def gIx : F2 := fun a b M => match b with
  | .int i => (match a with
    | .str z => if z.length ≤ sizeLine then (match atI z.cps.toList i with
      | some c => .ok (.str ⟨#[c]⟩) M
      | none => .no) else .no
    | a => (match seqA M a with
      | some xs => (match atI xs i with
        | some d => .ok d M
        | none => .no)
      | none => .no))
  | _ => .no
theorem atI_dv {K : PySem.W.Frag} {μ : Nat → Addr} {N : Nat} {H : Hp} {ds : List D} {vs : List V} {i : Int} {d : D} (q : DVs K μ N H ds vs) (h : atI ds i = some d) : ∃ v, atI vs i = some v ∧ DV K μ N H d v := by
  unfold atI at h ⊢
  rw [q.length]
  cases e : ixN ds.length i with
  | none => rw [e] at h; cases h
  | some j =>
    rw [e] at h
    exact q.get h
section
variable {X : Cx}
theorem ixm : IxM X gIx := by
  intro W value slice pins s σ H x y v u Q I rx ry ⟨μ, M, a, b, r, qa, qb, an⟩ hs
  unfold gIx at an
  split at an
  · rename_i i
    rw [int_dv qb] at ry
    split at an
    · rename_i z
      rw [str_dv qa] at rx
      split at an
      · rename_i hl
        split at an
        · rename_i c hc
          exact ix_str value slice pins s σ H _ _ v u Q I rx ry ⟨z, i, c, rfl, rfl, hl, hc, ans_pure r dv_str an⟩ hs
        · exact an.elim
      · exact an.elim
    · split at an
      · rename_i xs hx
        split at an
        · rename_i d hd
          obtain ⟨p, vs, e, hsq, qs⟩ := seqA_ok r qa hx
          subst e
          obtain ⟨w', hw, dw⟩ := atI_dv qs hd
          rcases hsq with hsq | hsq
          · exact ix_list value slice pins s σ H _ _ v u Q I rx ry ⟨p, vs, i, w', rfl, rfl, hsq, hw, ans_pure r dw an⟩ hs
          · exact ix_tup value slice pins s σ H _ _ v u Q I rx ry ⟨p, vs, i, w', rfl, rfl, hsq, hw, ans_pure r dw an⟩ hs
        · exact an.elim
      · exact an.elim
  · exact an.elim
/-! ### built-in functions -/
def gLen : FL := fun ds M => match ds with
  | [.str z] => if z.length ≤ sizeLine then .ok (.int z.length) M else .no
  | [d] => (match seqA M d with
    | some xs => .ok (.int xs.length) M
    | none => .no)
  | _ => .no
theorem cm_len : CallM X (.builtin "len") gLen := by
  intro W pins s σ H xs us Q I rv ⟨μ, M, as, r, q, an⟩
  unfold gLen at an
  split at an
  · split at an
    · rename_i hl
      obtain ⟨v, r', e, q1, q2⟩ := q.inv_cons
      rw [e, q2.inv_nil, str_dv q1] at rv
      exact call_len_str pins s σ H _ us Q I rv ⟨_, rfl, hl, ans_pure r dv_int an⟩
    · exact an.elim
  · split at an
    · rename_i ds hd
      obtain ⟨v, r', e, q1, q2⟩ := q.inv_cons
      obtain ⟨p, vs, e2, hsq, qs⟩ := seqA_ok r q1 hd
      rw [e, q2.inv_nil, e2] at rv
      refine call_len_seq pins s σ H _ us Q I rv ⟨p, vs, rfl, hsq, ?_⟩
      rw [qs.length]
      exact ans_pure r dv_int an
    · exact an.elim
  · exact an.elim
def gAbs : FL := fun ds M => match ds with
  | [.int i] => .ok (.int (if i < 0 then -i else i)) M
  | _ => .no
theorem cm_abs : CallM X (.builtin "abs") gAbs := by
  intro W pins s σ H xs us Q I rv ⟨μ, M, as, r, q, an⟩
  unfold gAbs at an
  split at an
  · obtain ⟨v, r', e, q1, q2⟩ := q.inv_cons
    rw [e, q2.inv_nil, int_dv q1] at rv
    exact call_abs pins s σ H _ us Q I rv ⟨_, rfl, ans_pure r dv_int an⟩
  · exact an.elim
def gMax : FL := fun ds M => match ds with
  | [.int i, .int j] => .ok (.int (if j > i then j else i)) M
  | _ => .no
def gMin : FL := fun ds M => match ds with
  | [.int i, .int j] => .ok (.int (if j < i then j else i)) M
  | _ => .no
theorem cm_max (hc : X.calm = true) : CallM X (.builtin "max") gMax := by
  intro W pins s σ H xs us Q I rv ⟨μ, M, as, r, q, an⟩
  unfold gMax at an
  split at an
  · obtain ⟨v, r', e, q1, q2⟩ := q.inv_cons
    obtain ⟨v2, r2, e2, q3, q4⟩ := q2.inv_cons
    rw [e, e2, q4.inv_nil, int_dv q1, int_dv q3] at rv
    exact call_max2 hc pins s σ H _ us Q I rv ⟨_, _, rfl, ans_pure r dv_int an⟩
  · exact an.elim
theorem cm_min (hc : X.calm = true) : CallM X (.builtin "min") gMin := by
  intro W pins s σ H xs us Q I rv ⟨μ, M, as, r, q, an⟩
  unfold gMin at an
  split at an
  · obtain ⟨v, r', e, q1, q2⟩ := q.inv_cons
    obtain ⟨v2, r2, e2, q3, q4⟩ := q2.inv_cons
    rw [e, e2, q4.inv_nil, int_dv q1, int_dv q3] at rv
    exact call_min2 hc pins s σ H _ us Q I rv ⟨_, _, rfl, ans_pure r dv_int an⟩
  · exact an.elim
def gInt : FL := fun ds M => match ds with
  | [.int i] => .ok (.int i) M
  | [.bl k] => .ok (.int (if k then 1 else 0)) M
  | _ => .no
theorem cm_int : CallM X (.type "int") gInt := by
  intro W pins s σ H xs us Q I rv ⟨μ, M, as, r, q, an⟩
  unfold gInt at an
  split at an
  · obtain ⟨v, r', e, q1, q2⟩ := q.inv_cons
    rw [e, q2.inv_nil, int_dv q1] at rv
    exact call_int1 pins s σ H _ us Q I rv (.inl ⟨_, rfl, ans_pure r dv_int an⟩)
  · obtain ⟨v, r', e, q1, q2⟩ := q.inv_cons
    rw [e, q2.inv_nil, bl_dv q1] at rv
    exact call_int1 pins s σ H _ us Q I rv (.inr ⟨_, rfl, ans_pure r dv_int an⟩)
  · exact an.elim
theorem cm_repr (hgd : X.A.guards = some []) (hu : X.A.units + 128 < cLine) : CallM X (.builtin "repr") gRepr := by
  intro W pins s σ H xs us Q I rv ⟨μ, M, as, r, q, an⟩
  unfold gRepr at an
  split at an
  · split at an
    · rename_i d p hp
      split at an
      · rename_i hs
        obtain ⟨v, r', e, q1, q2⟩ := q.inv_cons
        rw [e, q2.inv_nil] at rv
        obtain ⟨u, rfl, ru⟩ := vals1 rv
        have hdp := toPy_ok r q1 hp
        simp only [Bool.and_eq_true, decide_eq_true_eq, Bool.not_eq_true'] at hs
        obtain ⟨⟨⟨h1, h2⟩, h3⟩, h4⟩ := hs
        obtain ⟨as', hr⟩ := Dp.reads I p v u hdp ru
        cases hdp with
        | non => cases ru; exact PySem.P.repr_of_none ⟨.str _, H, I.tok _, ⟨_, rfl⟩, ans_pure r dv_str an⟩
        | bl b =>
          cases ru
          refine PySem.P.repr_of_bool ⟨.str _, H, I.tok _, ⟨_, rfl⟩, ?_⟩
          have := ans_pure r dv_str an
          exact this
        | int i =>
          obtain ⟨t, rfl⟩ := ru
          have hi : i.natAbs.log2 < 1920 := by simpa [PyData.showable] using h1
          exact PySem.P.repr_of_int hi ⟨.str _, H, I.tok _, ⟨_, rfl⟩, ans_pure r dv_str an⟩
        | str x =>
          obtain ⟨t, rfl⟩ := ru
          exact PySem.P.repr_of_str ⟨.str _, H, I.tok _, ⟨_, rfl⟩, ans_pure r dv_str an⟩ h4
        | lst hs2 ha =>
          cases ru
          refine repr_of_reads' hr h1 (fun z => by rw [h2] at z; cases z) hgd (by omega) (fun _ _ z => z) (fun h' u tk k => ?_) h4
          exact ⟨.str _, H, I.kept k, ⟨_, rfl⟩, ans_pure r dv_str an⟩
        | tup hs2 ha =>
          cases ru
          refine repr_of_reads' hr h1 (fun z => by rw [h2] at z; cases z) hgd (by omega) (fun _ _ z => z) (fun h' u tk k => ?_) h4
          exact ⟨.str _, H, I.kept k, ⟨_, rfl⟩, ans_pure r dv_str an⟩
      · exact an.elim
    · exact an.elim
  · exact an.elim
end
end Br
end
section
namespace Br
open PySem PySem.Spec PyProof.Rows L2
/-! ### a tuple times one is itself -/
theorem tupleOnce (l : Addr) (its : Array Value) (n : Nat) (dd : Option Addr) (sl : Array (Option Value)) (u : Tok) :
    Meets (Builtin.«tuple.__mul__» ⟨[.ref l, .int 1 u], []⟩) (fun _ R s => s.heap.get? l = some (Obj.mk (.type "tuple") dd (.seq its n) sl) ∧ R (.ok (.ret (.ref l))) s) :=
  .of_wp fun prog w A R s h => by
    obtain ⟨hp, g, d, tk, os⟩ := s
    obtain ⟨here, q⟩ := h
    have ix := AutoSeq1.idx_int
    wp_walk using wpAny_loadPart' here
    exact ⟨_, rfl, q⟩
theorem op_once {X : Cx} : OpR X (binaryOp .Mult) (fun x y H Q => ∃ l xs, x = .ref l ∧ y = .int 1 ∧ SqT X.K H l xs ∧ Q (.ref l) H) := by
  intro pins s σ H x y v u Q I rx ry ⟨l, xs, e1, e2, tup, q⟩
  subst e1; subst e2
  cases rx
  obtain ⟨tk, rfl⟩ := ry
  obtain ⟨vs, rel, ⟨⟨c0, d0, b0, s0⟩, here, z1, m, z2⟩, sz⟩ := I.tuple tup
  simp only at z1 z2
  subst z1 z2
  have own : s.TypeIs (.ref l) "tuple" := ⟨_, here, rfl⟩
  have r1 := int_rmul_tuple 1 tk l vs.toArray m d0 s0
  have r2 := tupleOnce l vs.toArray m d0 s0 tk
  refine wpAny_binaryOp_repeat_ref (T := "tuple") (U := "int") (by decide) own (fun s' => typeIs_int s' 1 tk) noFill_tuple_mul
    F.fills_int_mul F.slot_int_rmul repeat_tuple F.slot_int_index.lookup ?_
  refine call_meets F.slot_int_rmul (typeIs_int s 1 tk) F.entry_int_rmul (F.args_int_rmul_2 _ _) r1 ⟨here, rfl, own, ?_⟩
  exact call_meets F.slot_tuple_mul own F.entry_tuple_mul (F.args_tuple_mul_2 _ _) r2 ⟨here, V.ref l, _, I, rfl, q⟩
/-! ### products -/
section
variable {X : Cx}
theorem om_mul : OpM X (binaryOp .Mult) (fun a b M => match a, b with
    | .int i, .int j => if mulOk i j = true then .ok (.int (i * j)) M else .no
    | .tup xs, .int k => if k = 1 then .ok (.tup xs) M else if xs ≠ [] ∧ 2 ≤ k ∧ k ≤ 1000 ∧ xs.length ≤ 1000 then .ok (.tup (List.replicate k.toNat xs).flatten) M else .no
    | _, _ => .no) := by
  intro W pins s σ H x y v u Q I rx ry ⟨μ, M, a, b, r, qa, qb, an⟩
  dsimp only at an
  split at an
  · split at an
    · rename_i h
      rw [int_dv qa] at rx; rw [int_dv qb] at ry
      exact op_mulX pins s σ H _ _ v u Q I rx ry ⟨_, _, rfl, rfl, h, ans_pure r dv_int an⟩
    · exact an.elim
  · split at an
    · rename_i hk
      subst hk
      have qa' := qa
      obtain ⟨a1, x1, e1, s1, d1⟩ := tup_dv qa
      subst e1
      rw [int_dv qb] at ry
      exact op_once pins s σ H _ _ v u Q I rx ry ⟨a1, x1, rfl, rfl, s1, ans_pure r qa' an⟩
    split at an
    · rename_i xs k h0 h
      obtain ⟨a1, x1, e1, s1, d1⟩ := tup_dv qa
      subst e1
      rw [int_dv qb] at ry
      refine op_repT pins s σ H _ _ v u Q I rx ry ⟨a1, k, x1, rfl, rfl, s1, fun z => h.1 (d1.ne_nil.mp z), h.2.1, h.2.2.1, by rw [d1.length]; exact h.2.2.2, fun p hp => ?_⟩
      exact ans_tup r (d1.rep _) an p hp
    · exact an.elim
  · exact an.elim
/-! ### list + list -/
/-- of any lists that can be read -/
def rCatL (K : PySem.W.Frag) : R2 := fun x y H Q => ∃ a b xs ys, x = .ref a ∧ y = .ref b ∧ SqF' H a xs ∧ SqF' H b ys ∧ xs.length + ys.length ≤ sizeLine ∧ ∀ p, H p = none → Q (.ref p) (upd H p (.lst (xs ++ ys)))
where SqF' (H : Hp) (a : Addr) (xs : List V) : Prop := Rd H a (.lst xs)
theorem rd_lst {pins : List (Addr × Obj)} {s : Shared} {σ : L2.St} {H : Hp} {a : Addr} {xs : List V} (I : Inv X pins σ H s) (h : Rd H a (.lst xs)) : xs.length ≤ sizeLine ∧ ∃ (its : List Value) (n : Nat), Vals xs its ∧ xs.length = its.length ∧ s.heap.get? a = some { cls := .type "list", data := .seq its.toArray n } := by
  obtain ⟨z, its, n, r, e⟩ := h.ok I.hok
  exact ⟨z, its, n, r, r.length, e⟩
theorem op_catL : OpR X (binaryOp .Add) (rCatL X.K) := by
  intro pins s σ H x y v u Q I rx ry h
  obtain ⟨l, b, xs, zs, rfl, rfl, hH, hB, hz, q⟩ := h
  cases rx
  cases ry
  obtain ⟨z, its, n, r, hl, e⟩ := rd_lst I hH
  obtain ⟨z2, its2, n2, r2, hl2, e2⟩ := rd_lst I hB
  refine PySem.P.add_list e e2 ?_ (by rw [List.size_toArray, List.size_toArray]; omega)
  have ea : its.toArray ++ its2.toArray = (its ++ its2).toArray := by simp
  rw [ea]
  exact ⟨.ref _, _, I.lnew (t' := s.toks) (r.append r2) (by rw [List.length_append]; omega), rfl, q _ I.fresh⟩
end
/-- lists that are no constants of the top -/
def seqM (M : Mem) : D → Option (List D) := seqL M
def gCatV : F2 := fun a b M => match seqL M a, seqL M b with
  | some xs, some ys => if xs.length + ys.length ≤ sizeLine then .ok (.lst (xs ++ ys)) M else .no
  | _, _ => .no
def gCatN : F2 := fun a b M => match seqL M a, seqL M b with
  | some xs, some ys => if xs.length + ys.length ≤ sizeLine then .ok (.ref M.length) (M ++ [.lst (xs ++ ys)]) else .no
  | _, _ => .no
/-- no list stands in the written part (told of each address) -/
def NoKL (K : PySem.W.Frag) : Prop := ∀ (a : Addr) (o : Obj), K.lookup a = some o → o.cls ≠ .type "list"
section
variable {X : Cx} {W : WX} {a b e : Expr} {fa fb f : FE} {pos : Pos}
theorem sq_rd {K : PySem.W.Frag} (hk : NoKL K) {H : Hp} {a : Addr} {xs : List V} (h : SqL K H a xs) : Rd H a (.lst xs) := by
  rcases h with h | ⟨o, its, n, h, c, _⟩
  · exact h
  · exact absurd c (hk a o h)
theorem me_catN (hk : NoKL X.K) (ha : ME X W a fa) (hb : ME X W b fb) : ME X W (.BinOp a .Add b pos) (e2 gCatN fa fb) := by
  refine me_op (fun W pins s σ H x y v u Q I rx ry ⟨μ, M, a, b, r, qa, qb, an⟩ => ?_) ha hb
  unfold gCatN at an
  split at an
  · split at an
    · rename_i xs ys h1 h2 hl
      obtain ⟨p1, x1, e1, s1, d1⟩ := seqL_ok r qa h1
      obtain ⟨p2, x2, e2, s2, d2⟩ := seqL_ok r qb h2
      subst e1; subst e2
      exact op_catL pins s σ H _ _ v u Q I rx ry ⟨p1, p2, x1, x2, rfl, rfl, sq_rd hk s1, sq_rd hk s2, by rw [d1.length, d2.length]; exact hl, fun p hp => ans_new r (d1.append d2) an p hp⟩
    · exact an.elim
  · exact an.elim
theorem OpR.lock {f : Value → Value → Sem Value} {r : R2} (h : OpR X f r) : OpR X f (fun x y H Q => r x y H fun z H1 => ∃ a xs, z = .ref a ∧ H1 a = some (.lst xs) ∧ ∀ o, Q z (upd H1 a (.frz o (.lst xs)))) := by
  intro pins s σ H x y v u Q I rx ry hr
  refine thn (h pins s σ H x y v u _ I rx ry hr) fun w s1 ⟨z, H1, I1, rv, a, xs, e1, e2, q⟩ => ?_
  obtain ⟨o, J⟩ := Inv.lock I1 e2
  exact ⟨z, _, J, rv, q o⟩
theorem me_catV (hk : NoKL X.K) (ha : ME X W a fa) (hb : ME X W b fb) : ME X W (.BinOp a .Add b pos) (e2 gCatV fa fb) := by
  refine me_op (fun W pins s σ H x y v u Q I rx ry ⟨μ, M, a, b, r, qa, qb, an⟩ => ?_) ha hb
  unfold gCatV at an
  split at an
  · split at an
    · rename_i xs ys h1 h2 hl
      obtain ⟨p1, x1, e1, s1, d1⟩ := seqL_ok r qa h1
      obtain ⟨p2, x2, e2, s2, d2⟩ := seqL_ok r qb h2
      subst e1; subst e2
      exact OpR.lock op_catL pins s σ H _ _ v u Q I rx ry ⟨p1, p2, x1, x2, rfl, rfl, sq_rd hk s1, sq_rd hk s2, by rw [d1.length, d2.length]; exact hl, fun p hp => ⟨p, _, rfl, upd_same, fun o => ans_lst r (d1.append d2) an p hp o⟩⟩
    · exact an.elim
  · exact an.elim
/-! ### methods of lists -/
end
/-- the memory with a list changed -/
def putL (M : Mem) (n : Nat) (f : List D → List D) : Option Mem := match M[n]? with
  | some (.lst xs) => some (M.set n (.lst (f xs)))
  | _ => none
def gAppend : D → FL := fun a ds M => match a, ds with
  | .ref n, [d] => (match M[n]? with
    | some (.lst xs) => if xs.length < sizeLine then .ok .non (M.set n (.lst (xs ++ [d]))) else .no
    | _ => .no)
  | _, _ => .no
def gPop : D → FL := fun a ds M => match a, ds with
  | .ref n, [] => (match M[n]? with
    | some (.lst xs) => (match xs[xs.length - 1]? with
      | some d => .ok d (M.set n (.lst xs.dropLast))
      | none => .no)
    | _ => .no)
  | _, _ => .no
theorem put_lst {K : PySem.W.Frag} {μ : Nat → Addr} {M : Mem} {H : Hp} {n : Nat} {ds ds' : List D} {xs xs' : List V} (r : Rel K μ M H) (h : M[n]? = some (.lst ds)) (hx : H (μ n) = some (.lst xs)) (q : DVs K μ M.length H ds' xs') :
    Rel K μ (M.set n (.lst ds')) (upd H (μ n) (.lst xs')) ∧ Lift μ M.length H μ (M.set n (.lst ds')).length (upd H (μ n) (.lst xs')) := by
  have hn : n < M.length := (List.getElem?_eq_some_iff.mp h).1
  have l : Lift μ M.length H μ M.length (upd H (μ n) (.lst xs')) := ⟨Nat.le_refl _, fun _ _ => rfl, Kp.lst hx, fun b u e hne => by rw [upd_ne (fun z => hne n hn z.symm)]; exact e, fun n h h' => absurd h (Nat.not_le.mpr h'), fun b e => dom_upd e⟩
  exact r.put hn ⟨xs', upd_same, q.lift l⟩
section
variable {X : Cx} {W : WX} {e o : Expr} {es : List Expr} {fo : FE} {g : FA} {apos cpos : Pos}
theorem me_append (ho : ME X W o fo) (ha : MA X W (e :: es) g) (hbase : attributeBase o "append" X.env (eval o X.env) = eval o X.env := by rfl)
    (hfew : ((backTo cpos (starEach (e :: es) X.env)).all (fun x => !x.1) && (backToKw cpos (keywordEach [] X.env)).all (fun x => x.1.isSome) && decide ((e :: es).length + ([] : List Keyword).length + (if ([] : List Keyword).isEmpty then 0 else 1) < 30)) = true := by rfl)
    (hline : (apos.endLine == cpos.line) = true := by rfl) (hs : starEach (e :: es) X.env = (false, eval e X.env) :: starEach es X.env := by rfl) (hplain : (backTo cpos (starEach es X.env)).any (·.1) = false := by rfl) :
    ME X W (.Call (.Attribute o "append" apos) (e :: es) [] cpos) (fun ρ M => (fo ρ M).bind fun x M1 => match x with
      | .ref n => (match M1[n]? with
        | some (.lst _) => (g ρ M1).bind fun ds M2 => gAppend x ds M2
        | _ => .no)
      | _ => .no) := by
  refine ⟨fun pins s σ H Q I h => ?_⟩
  refine (pe_bm PySem.F.plainAttrs_list PySem.F.slot_list_append PySem.F.type_list_append mt_append ho ha hbase hfew hline hs hplain).run pins s σ H Q I ?_
  refine tM.mono (fun v H1 ⟨μ, M, ρ, d, r, e, q, a1⟩ => ?_) (tM.seq (rel := DV X.K) h)
  split at a1
  · rename_i n
    split at a1
    · rename_i xs hx
      obtain ⟨hn, ev⟩ := ref_dv q
      subst ev
      obtain ⟨ys, hy, _⟩ := r.obj n _ hx
      refine ⟨.inl ⟨rfl, ys, SqL.of hy⟩, ?_⟩
      have a2 := Ans.bind (rel := DVs X.K) a1
      refine ⟨μ, M, ρ, r, e, a2.mono (fun us H2 ⟨μ1, M1, ds, l, r1, q1, a3⟩ => ?_) fun _ _ _ z => z⟩
      cases ds with
      | nil => exact a3.elim
      | cons d dr =>
        cases dr with
        | cons _ _ => exact a3.elim
        | nil =>
          obtain ⟨v2, rr, ev, q2, q3⟩ := q1.inv_cons
          rw [q3.inv_nil] at ev
          subst ev
          have a3 : Ans X.K (DV X.K) (fun c d H' => W c d σ H') μ1 M1.length H2 (match M1[n]? with
            | some (.lst xs) => if xs.length < sizeLine then R.ok D.non (M1.set n (.lst (xs ++ [d]))) else .no
            | _ => .no) Q := a3
          split at a3
          · rename_i zs hz
            split at a3
            · rename_i hl
              obtain ⟨ws, hw, dw⟩ := r1.obj n _ hz
              have eμ : μ1 n = μ n := l.same n hn
              refine ⟨μ n, ws, v2, rfl, rfl, by rw [← eμ]; exact hw, by rw [dw.length]; exact hl, ?_⟩
              have p := put_lst r1 hz hw (dw.append (DVs.cons q2 DVs.nil))
              rw [← eμ]
              exact a3 μ1 _ _ p.2 p.1 dv_non
            · exact a3.elim
          · exact a3.elim
    · exact a1.elim
  · exact a1.elim
theorem me_pop (ho : ME X W o fo) (hbase : attributeBase o "pop" X.env (eval o X.env) = eval o X.env := by rfl) (hline : (apos.endLine == cpos.line) = true := by rfl) :
    ME X W (.Call (.Attribute o "pop" apos) [] [] cpos) (fun ρ M => (fo ρ M).bind fun x M1 => gPop x [] M1) := by
  refine ⟨fun pins s σ H Q I h => ?_⟩
  refine (pe_bm0 PySem.F.plainAttrs_list PySem.F.slot_list_pop PySem.F.type_list_pop mt_pop ho hbase hline).run pins s σ H Q I ?_
  refine tM.mono (fun v H1 ⟨μ, M, ρ, d, r, e, q, a1⟩ => ?_) (tM.seq (rel := DV X.K) h)
  unfold gPop at a1
  split at a1
  · rename_i n _
    split at a1
    · rename_i xs hx
      split at a1
      · rename_i d hd
        obtain ⟨hn, ev⟩ := ref_dv q
        subst ev
        obtain ⟨ys, hy, dy⟩ := r.obj n _ hx
        obtain ⟨w', hw, dw⟩ := dy.get hd
        refine ⟨.inl ⟨rfl, ys, SqL.of hy⟩, μ n, ys, w', rfl, rfl, hy, by rw [dy.length]; exact hw, ?_⟩
        have p := put_lst r hx hy dy.dropLast
        exact a1 μ _ _ p.2 p.1 (dw.lift (by have := p.2; rw [List.length_set] at this ⊢; exact this))
      · exact a1.elim
    · exact a1.elim
  · exact a1.elim
end
/-! ### targets -/
def setD (o i d : D) (M : Mem) : Option Mem := match o, i with
  | .ref n, .int k => (match M[n]? with
    | some (.lst xs) => (match ixN xs.length k with
      | some j => some (M.set n (.lst (xs.set j d)))
      | none => none)
    | _ => none)
  | _, _ => none
def gSb (fo fi : FE) : FG := fun d ρ M => SR.of (fo ρ M) ρ fun o M1 => SR.of (fi ρ M1) ρ fun i M2 => match setD o i d M2 with
  | some M3 => .go .nx ρ M3
  | none => .no
def MGs (X : Cx) (W : WX) (ts : List Expr) (g : List D → FStm) : Prop := PGs X ts (fun vs σ H Q => ∃ μ M ρ ds, Rel X.K μ M H ∧ EV X.K μ M.length H ρ σ ∧ DVs X.K μ M.length H ds vs ∧
  AnsS X.K W μ M.length H (g ds ρ M) { nx := Q, rt := fun _ _ => False })
def gsN : List D → FStm := fun ds ρ M => match ds with
  | [] => .go .nx ρ M
  | _ => .no
def gsC (g : FG) (gs : List D → FStm) : List D → FStm := fun ds ρ M => match ds with
  | d :: r => (g d ρ M).then (gs r)
  | _ => .no
def gTp (n : Nat) (gs : List D → FStm) : FG := fun d ρ M => match d with
  | .tup ds => if ds.length = n then gs ds ρ M else .no
  | _ => .no
section
variable {X : Cx} {W : WX} {t o i e : Expr} {ts : List Expr} {fo fi f : FE} {g : FG} {gs : List D → FStm} {pos : Pos}
theorem PGs.weak {t t' : TGs} (h : PGs X ts t) (w : ∀ vs σ H Q, t' vs σ H Q → t vs σ H Q) : PGs X ts t' := ⟨fun pins s σ H vs us Q I r hw => h.run pins s σ H vs us Q I r (w vs σ H Q hw)⟩
theorem mgs_nil : MGs X W [] gsN := by
  refine PGs.weak pgs_nil fun vs σ H Q ⟨μ, M, ρ, ds, r, e, q, a⟩ => ?_
  unfold gsN at a
  split at a
  · exact ⟨q.inv_nil, a μ H σ (Lift.refl ..) r e⟩
  · exact a.elim
theorem mgs_cons (h1 : MG X W t g) (h2 : MGs X W ts gs) (hs : (assignEach (t :: ts) X.env).map (·.2) = assign t X.env :: (assignEach ts X.env).map (·.2) := by rfl) : MGs X W (t :: ts) (gsC g gs) := by
  refine PGs.weak (pgs_cons h1 h2 hs) fun vs σ H Q ⟨μ, M, ρ, ds, r, e, q, a⟩ => ?_
  unfold gsC at a
  split at a
  · rename_i d ds'
    obtain ⟨v, vr, ev, q1, q2⟩ := q.inv_cons
    refine ⟨v, vr, ev, μ, M, ρ, d, r, e, q1, ?_⟩
    cases hg : g d ρ M with
    | go f ρ' M' =>
      rw [hg] at a
      cases f with
      | nx => exact fun μ' H' σ' l' r' e' => ⟨μ', M', ρ', ds', r', e', q2.lift l', AnsS.rebase l' a⟩
      | bk => exact a
      | ct => exact a
      | ret d => exact a
    | ex x ρ' M' => rw [hg] at a; exact a
    | no => rw [hg] at a; exact a
  · exact a.elim
theorem mg_tup {n k : Nat} (hc : X.calm = true) (h : MGs X W ts gs) (hn : (assignEach ts X.env).length = n := by rfl) (hst : (assignEach ts X.env).findIdx? (·.1) = none := by rfl) : MG X W (.Tuple ts k pos) (gTp n gs) := by
  refine ⟨fun pins s σ H v u Q I rv ⟨μ, M, ρ, d, r, e, q, a⟩ => ?_⟩
  unfold gTp at a
  split at a
  · split at a
    · rename_i ds hl
      obtain ⟨p, xs, ev, sq, dq⟩ := tup_dv q
      refine (pg_tup hc h hn hst).run pins s σ H v u Q I rv ⟨p, xs, ev, sq, by rw [dq.length]; exact hl, μ, M, ρ, ds, r, e, dq, a⟩
    · exact a.elim
  · exact a.elim
theorem mg_sub (ho : ME X W o fo) (hi : ME X W i fi)
    (ha : ∀ v, assign (.Subscript o i pos) X.env v = (do
      let ov ← holding [v] (eval o X.env)
      let iv ← holding [v, ov] (eval i X.env)
      standAt pos
      holding [v, ov, iv] (setItem ov iv v)
      release [v, ov, iv] []) := by intro _; rfl) : MG X W (.Subscript o i pos) (gSb fo fi) := by
  refine ⟨fun pins s σ H v u Q I rv ⟨μ, M, ρ, d, r, e, q, a⟩ => ?_⟩
  refine (pg_sub ho hi set_list ha).run pins s σ H v u Q I rv ?_
  refine ⟨μ, M, ρ, r, e, ?_⟩
  unfold gSb at a
  cases h1 : fo ρ M with
  | no => rw [h1] at a; exact a
  | ex x M1 => rw [h1] at a; exact fun μ' H' c dd l' r' x' => a μ' H' σ c dd l' r' (e.lift l') x'
  | ok o1 M1 =>
    rw [h1] at a
    refine fun μ1 H1 ov l1 r1 q1 => ⟨μ1, M1, ρ, r1, e.lift l1, ?_⟩
    have a := AnsS.rebase l1 a
    cases h2 : fi ρ M1 with
    | no => unfold SR.of at a; dsimp only at a; rw [h2] at a; exact a
    | ex x M2 => unfold SR.of at a; dsimp only at a; rw [h2] at a; exact fun μ' H' c dd l' r' x' => a μ' H' σ c dd l' r' ((e.lift l1).lift l') x'
    | ok i1 M2 =>
      unfold SR.of at a; dsimp only at a; rw [h2] at a
      refine fun μ2 H2 iv l2 r2 q2 => ?_
      have a := AnsS.rebase l2 a
      dsimp only at a
      split at a
      · rename_i M3 h3
        unfold setD at h3
        split at h3
        · rename_i n k _
          split at h3
          · rename_i xs hx
            split at h3
            · rename_i j hj
              cases h3
              obtain ⟨hn, ev⟩ := ref_dv (q1.lift l2)
              obtain ⟨ys, hy, dy⟩ := r2.obj n _ hx
              have p := put_lst r2 hx hy (dy.set (q.lift (l1.trans l2)) j)
              refine ⟨μ2 n, ys, k, j, ev, int_dv q2, hy, by rw [dy.length]; exact hj, ?_⟩
              exact a μ2 _ σ p.2 p.1 (((e.lift l1).lift l2).lift p.2)
            · cases h3
          · cases h3
        · cases h3
      · exact a.elim
theorem ms_asgT (he : ME X W e f) (hg : MG X W t g) (hs : swapsWithSole [t] e pos.line X.env = pure false := by rfl) (hw : swappedStores [t] e X.env = pure none := by rfl)
    (h1 : (assignEach [t] X.env).map (·.2) = [assign t X.env] := by rfl) : MS X W (.Assign [t] e pos) (fun ρ M => SR.of (f ρ M) ρ fun d M1 => match g d ρ M1 with
      | .go .nx ρ' M' => .go .nx ρ' M'
      | .ex e ρ' M' => .ex e ρ' M'
      | _ => .no) := by
  refine PS.weak (ps_asg he hg hs hw h1) fun D σ H h => ?_
  refine tM.mono (fun v H1 ⟨μ, M, ρ, d, r, e, q, a⟩ => ⟨μ, M, ρ, d, r, e, q, ?_⟩) (tSt.expr (rel := DV X.K) h)
  cases hg : g d ρ M with
  | go f ρ' M' =>
    rw [hg] at a
    cases f with
    | nx => exact a
    | bk => exact a.elim
    | ct => exact a.elim
    | ret d => exact a.elim
  | ex x ρ' M' => rw [hg] at a; exact a
  | no => rw [hg] at a; exact a
def sAsgT (f : FE) (g : FG) : FStm := fun ρ M => SR.of (f ρ M) ρ fun d M1 => match g d ρ M1 with
  | .go .nx ρ' M' => .go .nx ρ' M'
  | .ex e ρ' M' => .ex e ρ' M'
  | _ => .no
theorem ms_asgT' (he : ME X W e f) (hg : MG X W t g) (hs : swapsWithSole [t] e pos.line X.env = pure false := by rfl) (hw : swappedStores [t] e X.env = pure none := by rfl)
    (h1 : (assignEach [t] X.env).map (·.2) = [assign t X.env] := by rfl) : MS X W (.Assign [t] e pos) (sAsgT f g) := ms_asgT he hg hs hw h1
/-- a, b = x, y and a, b, c = x, y, z, stored from the right -/
def sPar (is : List Nat) (g : FA) : FStm := fun ρ M => SR.of (g ρ M) ρ fun ds M1 => if ds.length = is.length then .go .nx ((is.zip ds).foldl (fun ρ p => ρ.set p.1 (some p.2)) ρ) M1 else .no
theorem ms_par {i j : Nat} {x y : Str} {a b : Expr} {g : FA} {px py pt : Pos} {kt k2 pt2} (hc : X.calm = true) (hN : X.N.Nodup) (hi : X.N[i]? = some x) (hj : X.N[j]? = some y) (hij : i ≠ j)
    (hx : X.env.scope.names.lookup x = some .local) (hy : X.env.scope.names.lookup y = some .local) (ha : MA X W [a, b] g)
    (hw : swappedStores [.Tuple [.Name x px, .Name y py] kt pt] (.Tuple [a, b] k2 pt2) X.env = pure (some [x, y]))
    (hs : swapsWithSole [.Tuple [.Name x px, .Name y py] kt pt] (.Tuple [a, b] k2 pt2) pos.line X.env = pure false := by rfl) :
    MS X W (.Assign [.Tuple [.Name x px, .Name y py] kt pt] (.Tuple [a, b] k2 pt2) pos) (sPar [i, j] g) := by
  refine PS.weak (ps_par hc hN hi hj hij hx hy ha hw hs) fun D σ H h => ?_
  refine tM.mono (fun vs H1 ⟨μ, M, ρ, ds, r, e, q, a⟩ => ?_) (tSt.expr (rel := DVs X.K) h)
  split at a
  · rename_i hl
    match ds, hl, q, a with
    | [d1, d2], _, q, a =>
      obtain ⟨v1, r1, e1, q1, q2⟩ := q.inv_cons
      obtain ⟨v2, r2, e2, q3, q4⟩ := q2.inv_cons
      refine ⟨v1, v2, by rw [e1, e2, q4.inv_nil], a μ H1 _ (Lift.refl ..) r ((e.set q1 i).set q3 j)⟩
  · exact a.elim
theorem ms_par3 {i j l : Nat} {x y z : Str} {a b c : Expr} {g : FA} {px py pz pt : Pos} {kt k2 pt2} (hc : X.calm = true) (hN : X.N.Nodup) (hi : X.N[i]? = some x) (hj : X.N[j]? = some y) (hl : X.N[l]? = some z) (hij : i ≠ j) (hil : i ≠ l) (hjl : j ≠ l)
    (hx : X.env.scope.names.lookup x = some .local) (hy : X.env.scope.names.lookup y = some .local) (hz : X.env.scope.names.lookup z = some .local) (ha : MA X W [a, b, c] g)
    (hw : swappedStores [.Tuple [.Name x px, .Name y py, .Name z pz] kt pt] (.Tuple [a, b, c] k2 pt2) X.env = pure (some [x, y, z]))
    (hs : swapsWithSole [.Tuple [.Name x px, .Name y py, .Name z pz] kt pt] (.Tuple [a, b, c] k2 pt2) pos.line X.env = pure false := by rfl) :
    MS X W (.Assign [.Tuple [.Name x px, .Name y py, .Name z pz] kt pt] (.Tuple [a, b, c] k2 pt2) pos) (sPar [i, j, l] g) := by
  refine PS.weak (ps_par3 hc hN hi hj hl hij hil hjl hx hy hz ha hw hs) fun D σ H h => ?_
  refine tM.mono (fun vs H1 ⟨μ, M, ρ, ds, r, e, q, a⟩ => ?_) (tSt.expr (rel := DVs X.K) h)
  split at a
  · rename_i hl
    match ds, hl, q, a with
    | [d1, d2, d3], _, q, a =>
      obtain ⟨v1, r1, e1, q1, q2⟩ := q.inv_cons
      obtain ⟨v2, r2, e2, q3, q4⟩ := q2.inv_cons
      obtain ⟨v3, r3, e3, q5, q6⟩ := q4.inv_cons
      refine ⟨v1, v2, v3, by rw [e1, e2, e3, q6.inv_nil], a μ H1 _ (Lift.refl ..) r (((e.set q1 i).set q3 j).set q5 l)⟩
  · exact a.elim
/-! ### walks -/
theorem mi_it {tg : Expr} (hl : ME X W e f) : MI X W tg e (wIt f) := by
  refine ⟨fun pins s σ H R I h => ?_⟩
  refine thn (hl.run pins s σ H _ I (tM.seq (rel := DV X.K) h)) fun v s1 ⟨x, H1, I1, r1, μ, M, ρ, d, r, e, q, a⟩ => ?_
  cases d with
  | tup ds =>
    obtain ⟨p, xs, ev, sq, dq⟩ := tup_dv q
    subst ev
    cases r1
    obtain ⟨its, rv, ht, hz⟩ := I1.tuple sq
    refine wpAny_pyIter_tuple (show s1.heap.IsTuple p its.toArray from ht) ?_
    refine ⟨s1.heap.objs.size, [s1.heap.objs.size], _, _, H1, rfl, I1.kept (t' := s1.toks) fun b o e => Heap.get?_push_of_some _ e, turn_tuple p _, ⟨_, Heap.get?_push_size _ rfl, rfl, rfl⟩, fun b hb => ?_, a μ H1 _ (Lift.refl ..) r (wk_tup dq sq)⟩
    have e : b = s1.heap.objs.size := by simpa using hb
    subst e
    exact I1.fpOk (Nat.le_refl _) (I1.hok.fresh (Nat.le_refl _))
  | lst ds =>
    obtain ⟨p, xs, ev, sq, dq⟩ := lst_dv q
    subst ev
    cases r1
    obtain ⟨its, rv, ht, hz⟩ := I1.list sq.seq
    refine wpAny_pyIter_list ht.isList ?_
    refine ⟨s1.heap.objs.size, [s1.heap.objs.size], _, _, H1, rfl, I1.kept (t' := s1.toks) fun b o e => Heap.get?_push_of_some _ e, turn_list p _, ⟨_, Heap.get?_push_size _ rfl, rfl, rfl⟩, fun b hb => ?_, a μ H1 _ (Lift.refl ..) r (wk_lst dq sq)⟩
    have e : b = s1.heap.objs.size := by simpa using hb
    subst e
    exact I1.fpOk (Nat.le_refl _) (I1.hok.fresh (Nat.le_refl _))
  | ref n =>
    obtain ⟨hn, ev⟩ := ref_dv q
    subst ev
    cases r1
    dsimp only [wkOf] at a
    cases ho : M[n]? with
    | none => simp [hn] at ho
    | some o =>
      cases o with
      | lst ds =>
        rw [ho] at a
        obtain ⟨xs, hx, dx⟩ := r.obj n _ ho
        obtain ⟨its, rv, ht, hz⟩ := I1.list (SqL.of hx)
        refine wpAny_pyIter_list ht.isList ?_
        refine ⟨s1.heap.objs.size, [s1.heap.objs.size], _, _, H1, rfl, I1.kept (t' := s1.toks) fun b o e => Heap.get?_push_of_some _ e, turn_list (μ n) _, ⟨_, Heap.get?_push_size _ rfl, rfl, rfl⟩, fun b hb => ?_, a μ H1 _ (Lift.refl ..) r ⟨hn, rfl⟩⟩
        have e : b = s1.heap.objs.size := by simpa using hb
        subst e
        exact I1.fpOk (Nat.le_refl _) (I1.hok.fresh (Nat.le_refl _))
      | dic kvs => rw [ho] at a; exact a.elim
      | ins c fs => rw [ho] at a; exact a.elim
  | non => exact a.elim
  | bl b => exact a.elim
  | int i => exact a.elim
  | str x => exact a.elim
  | gl x => exact a.elim
  | ty x => exact a.elim
  | ptp x => exact a.elim
  | exc x y z => exact a.elim
  | adr x y => exact a.elim
end
end Br
end
section
namespace Br
open PySem PySem.Spec PyProof.Rows L2
def eAppend (fo : FE) (g : FA) : FE := fun ρ M => (fo ρ M).bind fun x M1 => match x with
  | .ref n => (match M1[n]? with
    | some (.lst _) => (g ρ M1).bind fun ds M2 => gAppend x ds M2
    | _ => .no)
  | _ => .no
def ePop (fo : FE) : FE := fun ρ M => (fo ρ M).bind fun x M1 => gPop x [] M1
def gMul' : F2 := fun a b M => match a, b with
    | .int i, .int j => if mulOk i j = true then .ok (.int (i * j)) M else .no
    | .tup xs, .int k => if k = 1 then .ok (.tup xs) M else if xs ≠ [] ∧ 2 ≤ k ∧ k ≤ 1000 ∧ xs.length ≤ 1000 then .ok (.tup (List.replicate k.toNat xs).flatten) M else .no
    | _, _ => .no
section
variable {X : Cx} {W : WX} {e o a b : Expr} {es : List Expr} {fo f fa fb : FE} {g : FA} {apos cpos pos p : Pos} {tg : Expr}
theorem me_app (ho : ME X W o fo) (ha : MA X W (e :: es) g) (hbase : attributeBase o "append" X.env (eval o X.env) = eval o X.env := by rfl)
    (hfew : ((backTo cpos (starEach (e :: es) X.env)).all (fun x => !x.1) && (backToKw cpos (keywordEach [] X.env)).all (fun x => x.1.isSome) && decide ((e :: es).length + ([] : List Keyword).length + (if ([] : List Keyword).isEmpty then 0 else 1) < 30)) = true := by rfl)
    (hline : (apos.endLine == cpos.line) = true := by rfl) (hs : starEach (e :: es) X.env = (false, eval e X.env) :: starEach es X.env := by rfl) (hplain : (backTo cpos (starEach es X.env)).any (·.1) = false := by rfl) :
    ME X W (.Call (.Attribute o "append" apos) (e :: es) [] cpos) (eAppend fo g) := me_append ho ha hbase hfew hline hs hplain
theorem me_pop' (ho : ME X W o fo) (hbase : attributeBase o "pop" X.env (eval o X.env) = eval o X.env := by rfl) (hline : (apos.endLine == cpos.line) = true := by rfl) :
    ME X W (.Call (.Attribute o "pop" apos) [] [] cpos) (ePop fo) := me_pop ho hbase hline
theorem om_mul' : OpM X (binaryOp .Mult) gMul' := om_mul
def wRng1 (g : FA) : En → Mem → R Wk := fun ρ M => (g ρ M).bind fun ds M1 => match ds with
  | [.int j] => if -(2 ^ 62) ≤ j ∧ j < 2 ^ 62 then .ok (.items (rangeD 0 j.toNat)) M1 else .no
  | _ => .no
def wRng2 (g : FA) : En → Mem → R Wk := fun ρ M => (g ρ M).bind fun ds M1 => match ds with
  | [.int i, .int j] => if (-(2 ^ 62) ≤ i ∧ i < 2 ^ 62) ∧ -(2 ^ 62) ≤ j ∧ j < 2 ^ 62 then .ok (.items (rangeD i (j - i).toNat)) M1 else .no
  | _ => .no
theorem mi_range1 (hg : Gl X "range") (hm : X.mg "range" = none) (ha : MA X W [a] g) (hs : starEach [a] X.env = [(false, eval a X.env)] := by rfl) : MI X W tg (.Call (.Name "range" p) [a] [] pos) (wRng1 g) := by
  refine PI.weak (pi_range1 hg hm ha hs) fun σ H Q h => ?_
  refine tM.mono (fun vs H1 ⟨μ, M, ρ, ds, r, e, q, a⟩ => ?_) (tM.seq (rel := DVs X.K) h)
  split at a
  · rename_i j
    split at a
    · rename_i hj
      obtain ⟨v1, r1, e1, q1, q2⟩ := q.inv_cons
      refine ⟨j, by rw [e1, q2.inv_nil, int_dv q1], hj.1, hj.2, a μ H1 _ (Lift.refl ..) r (wk_range 0 j.toNat)⟩
    · exact a.elim
  · exact a.elim
theorem mi_range2 (hg : Gl X "range") (hm : X.mg "range" = none) (ha : MA X W [a, b] g) (hs : starEach [a, b] X.env = [(false, eval a X.env), (false, eval b X.env)] := by rfl) (hs2 : starEach [b] X.env = [(false, eval b X.env)] := by rfl) : MI X W tg (.Call (.Name "range" p) [a, b] [] pos) (wRng2 g) := by
  refine PI.weak (pi_range2 hg hm ha hs hs2) fun σ H Q h => ?_
  refine tM.mono (fun vs H1 ⟨μ, M, ρ, ds, r, e, q, a⟩ => ?_) (tM.seq (rel := DVs X.K) h)
  split at a
  · rename_i i j
    split at a
    · rename_i hj
      obtain ⟨v1, r1, e1, q1, q2⟩ := q.inv_cons
      obtain ⟨v2, r2, e2, q3, q4⟩ := q2.inv_cons
      refine ⟨i, j, by rw [e1, e2, q4.inv_nil, int_dv q1, int_dv q3], ⟨hj.1.1, hj.1.2, hj.2.1, hj.2.2⟩, a μ H1 _ (Lift.refl ..) r (wk_range i (j - i).toNat)⟩
    · exact a.elim
  · exact a.elim
end
/-! ### the law's end -/
/-- data of the script -/
def scriptD (ns : List Int) : D := .lst (ns.map .int)
theorem script_dv {K : PySem.W.Frag} {H : Hp} {a : Addr} {ns : List Int} (ho : Only H) (hs : SqL K H a (ns.map V.int)) (μ : Nat → Addr) (N : Nat) : DV K μ N H (scriptD ns) (.ref a) := by
  refine dv_lst (xs := ns.map V.int) ?_ (DVs.of_ints ns)
  rcases hs with (h | ⟨o, h⟩) | h
  · rcases ho a with z | ⟨o, xs, z⟩
    · rw [z] at h; cases h
    · rw [z] at h; cases h
  · exact .inl ⟨o, h⟩
  · exact .inr h
theorem hid_keeps {h : Heap} {H : Hp} {b : Addr} {o : Obj} (e : h.get? b = some o) (n : H b = none) : (hidT h H).get? b = some o := hidT_get e n
/-- the heaps that a law is begun with: nothing, or the locked script alone -/
def onlyAt (a : Addr) (o : Obj) (xs : List V) (b : Bool) : Hp := fun c => if b = true ∧ c = a then some (.frz o (.lst xs)) else none
theorem onlyAt_some {a c : Addr} {o : Obj} {xs : List V} {b : Bool} {u : HO} (h : onlyAt a o xs b c = some u) : b = true ∧ c = a ∧ u = .frz o (.lst xs) := by
  unfold onlyAt at h
  split at h
  · rename_i q; cases h; exact ⟨q.1, q.2, rfl⟩
  · cases h
theorem onlyAt_other {a c : Addr} {o : Obj} {xs : List V} {b : Bool} (h : b = true → c ≠ a) : onlyAt a o xs b c = none := by
  unfold onlyAt
  split
  · rename_i q; exact absurd q.2 (h q.1)
  · rfl
theorem lawM {P : Program} {w : World} {K : PySem.W.Frag} {mg mb : Str → Option Value} {k : Nat} {fa a : Addr} {fd : FuncData} {x : Str} {m : FL} {s : Shared} {us : List Value} {ns : List Int}
    (hK : K.In s.heap) (hm : s.heap.Ns mainGlobals mg) (hb1 : s.heap.Ns builtinsNs mb) (hb2 : ∀ y : Str, y ≠ "__name__" → mb y = bootBuiltins y) (hlim : s.heap.NoLimit) (hgen : s.gens = #[])
    (hobj : s.heap.get? a = some { cls := .type "list", data := .seq us.toArray }) (hi : IntsAre us ns) (hl : ns.length ≤ sizeLine) (hr : Room k callerA) (hgd : callerA.guards = some [])
    (F : ∀ base : Heap, K.In base → base.Ns mainGlobals mg → FnM P w K mg base k fa fd [x] m ∧ AB P w K mg base fd [x] 1 [] (fun ds _ => ds))
    (hlaw : ∃ M, m [scriptD ns] [] = .ok (.bl true) M) :
    codeAny (model P w) callerA (.call (.ref fa) ⟨[.ref a], []⟩) (fun r s' => r = .ok (.ret (.bool true)) ∧ OldK s.heap s'.heap ∧ s'.os = s.os ∧ AllBare s'.gens) s := by
  have rv := vals_ints hi
  let o : Obj := { cls := .type "list", data := .seq us.toArray }
  let H : Hp := onlyAt a o (ns.map V.int) (K.lookup a).isNone
  have hH : ∀ c u, H c = some u → K.lookup a = none ∧ c = a ∧ u = .frz o (.lst (ns.map V.int)) := fun c u h => by
    obtain ⟨q1, q2, q3⟩ := onlyAt_some h
    exact ⟨Option.isNone_iff_eq_none.mp q1, q2, q3⟩
  have hfree : ∀ {c : Addr} {ob : Obj} {es : Array DictEntry} {ep : Nat}, s.heap.get? c = some ob → ob.data = .dict es ep → H c = none := fun {c ob es ep} e d => by
    cases q : H c with
    | none => rfl
    | some u =>
      obtain ⟨_, q2, _⟩ := hH c u q
      rw [q2, hobj] at e
      cases e
      cases (show Data.seq us.toArray _ = Data.dict es ep from d)
  have hns : ∀ {c : Addr} {f : Str → Option Value}, s.heap.Ns c f → (hidT s.heap H).Ns c f := fun {c f} ⟨ob, es, ep, e, d, r⟩ => ⟨ob, es, ep, hid_keeps e (hfree e d), d, r⟩
  have hKin : K.In (hidT s.heap H) := fun c ob e => hid_keeps (hK c ob e) (by
    cases q : H c with
    | none => rfl
    | some u =>
      obtain ⟨q1, q2, _⟩ := hH c u q
      rw [q2, q1] at e
      cases e)
  have hok : HOk P w H s.heap := fun c u q => by
    obtain ⟨_, q2, q3⟩ := hH c u q
    subst q2; subst q3
    exact ⟨hobj, by rw [List.length_map]; exact hl, us, _, rv, hobj⟩
  have hmod : Mod K mg (hidT s.heap H) := ⟨hKin, hns hm, ⟨mb, hns hb1, hb2⟩, by obtain ⟨mc, h1, h2⟩ := hlim; exact ⟨mc, hns h1, h2⟩⟩
  have hnof : ∀ c, c ∉ frs ([] : List Env) := fun c z => by cases z
  have e0 : Env0 P w K mg (hidT s.heap H) callerA [] s H := ⟨rfl, hmod, fun c ob e => of_hidT e, Nat.le_of_eq (hidT_size _ _), trivial, fun c z => absurd z (hnof c), hok, .of_eq hgen⟩
  obtain ⟨F1, F2⟩ := F _ hKin (hns hm)
  have hsc : DV K (fun _ => 0) 0 H (scriptD ns) (.ref a) := by
    refine dv_lst (xs := ns.map V.int) ?_ (DVs.of_ints ns)
    cases q : K.lookup a with
    | none => exact .inl ⟨o, by show onlyAt a o (ns.map V.int) (K.lookup a).isNone a = _; unfold onlyAt; rw [q]; exact if_pos ⟨rfl, rfl⟩⟩
    | some ob =>
      have e := hK a ob q
      rw [hobj] at e
      cases e
      exact .inr ⟨_, us.toArray, _, q, rfl, rfl, rfl, by rw [List.size_toArray, hi.length]; exact hl, by simpa using rv⟩
  have hrel : Rel K (fun _ => 0) [] H := ⟨fun n ob e => by simp at e, fun i j hi => by simp at hi⟩
  have hbn := F2.bnd callerA [] s H (fun _ _ _ => False) [.ref a] [] [.ref a] [] (fun _ => 0) [] [scriptD ns] [] e0 rfl rfl (.cons rfl .nil) .nil hrel (DVs.cons hsc DVs.nil) DVs.nil
  obtain ⟨M', hm'⟩ := hlaw
  refine codeAny_mono (F1.run callerA [] s H ⟨[.ref a], []⟩ (fun v _ => v = .bl true) (fun _ _ _ => False) _ hr hgd e0 hbn fun vs H2 ⟨r2, l2, q2⟩ => ?_) fun r s' h => ?_
  · refine ⟨fun _ => 0, [], [scriptD ns], r2, q2, ?_⟩
    rw [hm']
    exact fun μ' H' v l r q => bl_dv q
  · cases r with
    | error e =>
      obtain ⟨_, _, _, _, _, _, _, _, _, _, _, _, z⟩ := h
      exact z.elim
    | ok fl =>
      cases fl with
      | next => exact False.elim h
      | brk => exact False.elim h
      | cont => exact False.elim h
      | ret u =>
        obtain ⟨v, H', hos, hbare, hun, hok', hrv, hv⟩ := h
        subst hv
        have hu : u = Value.bool true := hrv
        subst hu
        refine ⟨rfl, OldK.of_keep fun c ob e => ?_, hos, hbare⟩
        cases q : H c with
        | none => exact hun.keep c ob e q (hnof c) (by simp)
        | some u2 =>
          obtain ⟨_, q2, q3⟩ := hH c u2 q
          rw [q3] at q
          have z := hun.frzs c _ _ q
          have z1 := (hok c _ q).1
          have z2 := (hok' c _ z).1
          rw [e] at z1
          cases z1
          exact z2
theorem walkM {l : PySem.W.OpenLaw} {n k : Nat} {q : Program} {loose : List Str} {XP : (Str → Option Value) → Heap → Prop} {YP : World → Heap → Prop} {d : DefRec} {x : Str} {m : FL}
    (hn : l.most = some n) (hn2 : n ≤ sizeLine) (hdf : d.params.defaults = []) (hr : Room k callerA) (hgd : callerA.guards = some [])
    (F : ∀ (w : World) (mg : Str → Option Value) (fa : Addr) (h : Heap), YP w h → h.Ns mainGlobals mg → mg d.name = some (.ref fa) →
      ∃ (K : PySem.W.Frag) (fd : FuncData), K.In h ∧ ∀ base : Heap, K.In base → base.Ns mainGlobals mg → FnM l.prog w K mg base k fa fd [x] m ∧ AB l.prog w K mg base fd [x] 1 [] (fun ds _ => ds))
    (hlaw : ∀ ns : List Int, ns.length ≤ n → ∃ M, m [scriptD ns] [] = .ok (.bl true) M) :
    PySem.W.WalkO q loose XP YP l.row.toRowW d [] (fun f vs => PySem.call f vs) := by
  refine Att.attach_call hn hdf fun w s₀ s₁ mg mb fa o pm cd doc a vs ns G Y ho hd hcd hmg hobj hints hlen hg => ?_
  obtain ⟨K, fd, KX, hF⟩ := F w mg fa _ Y G.T.g hmg
  exact lawM KX G.T.g G.T.b G.T.builtins G.T.nolimit hg hobj hints (Nat.le_trans hlen hn2) hr hgd hF (hlaw ns hlen)
end Br
end
section
namespace Br
open PySem PySem.Spec PyProof.Rows L2
def pk {α : Type} (l : List α) (i : Nat) : List α := l[i]?.toList
theorem vals_pk {vs : List V} {us : List Value} (r : Vals vs us) (i : Nat) : Vals (pk vs i) (pk us i) := by
  unfold pk
  cases e : vs[i]? with
  | none => rw [r.none_of e]; exact .nil
  | some v =>
    obtain ⟨u, hu, rv⟩ := r.get e
    rw [hu]
    exact .cons rv .nil
theorem dvs_pk {K : PySem.W.Frag} {μ : Nat → Addr} {N : Nat} {H : Hp} {ds : List D} {vs : List V} (q : DVs K μ N H ds vs) (i : Nat) : DVs K μ N H (pk ds i) (pk vs i) := by
  unfold pk
  cases e : ds[i]? with
  | none =>
    have h1 : ds.length ≤ i := List.getElem?_eq_none_iff.mp e
    have h2 : vs[i]? = none := List.getElem?_eq_none_iff.mpr (by rw [q.length]; exact h1)
    rw [h2]; exact DVs.nil
  | some d =>
    obtain ⟨v, hv, dv⟩ := q.get e
    rw [hv]
    exact DVs.cons dv DVs.nil
section
variable {P : Program} {w : World} {K : PySem.W.Frag} {mg : Str → Option Value} {base : Heap}
theorem AB.of_all {fd : FuncData} {ps : List Str} {n : Nat} (hb : Binds K fd ps []) (hn : n = ps.length) : AB P w K mg base fd ps n [] (fun ds _ => ds) := by
  have h := AB.of_binds (P := P) (w := w) (mg := mg) (base := base) (n := n) hb .nil Dfl.nil hn
  refine ⟨fun A outer s H E us ws vs zs μ M ds es e0 l1 l2 rv rz r q qz => ?_⟩
  have z := h.bnd A outer s H E us ws vs zs μ M ds es e0 l1 l2 rv rz r q qz
  rw [List.append_nil] at z
  exact z
theorem AB.of_star0K {fd : FuncData} {ps : List Str} {pv : Str} (hz : ps.length ≤ 1000)
    (hb : ∀ ws : List Value, ws.length = ps.length → bindArgs fd ⟨[], ps.zip ws⟩ = (newTuple [] >>= fun t => pure (ps.zip ws ++ [(pv, t)]))) : AB P w K mg base fd (ps ++ [pv]) 0 ps (fun _ es => es ++ [.tup []]) := by
  refine ⟨fun A outer s H E us ws vs zs μ M ds es e0 l1 l2 rv rz r q qz A' Ex Q k => ?_⟩
  have hu : us = [] := List.eq_nil_of_length_eq_zero l1
  subst hu
  rw [hb ws l2]
  refine wpAny_bind (wpAny_newObj_type ?_ (Nat.zero_le _))
  refine wpAny_pure ?_
  have hfr : H s.heap.objs.size = Option.none := e0.hok.fresh (Nat.le_refl _)
  have new : ObjOk P w (upd H s.heap.objs.size (.tup [])) (s.heap.push { cls := .type "tuple", data := .seq ([] : List Value).toArray }) s.heap.objs.size (.tup []) := ⟨Nat.zero_le _, [], .nil, IsTup.new s.heap _⟩
  have e1 := StX.env0_laid e0 new
  have un : Un (frs outer) [] H (upd H s.heap.objs.size (.tup [])) s.heap (s.heap.push { cls := .type "tuple", data := .seq ([] : List Value).toArray }) := StX.un_laid hfr
  have hz : (ps ++ [pv]).zip (ws ++ [Value.ref s.heap.objs.size]) = ps.zip ws ++ [(pv, Value.ref s.heap.objs.size)] := by
    rw [List.zip_append l2.symm]; rfl
  rw [← hz]
  refine k { s with heap := s.heap.push { cls := .type "tuple", data := .seq ([] : List Value).toArray } } _ (zs ++ [V.ref s.heap.objs.size]) _ e1 un rfl (fun e s' z => ?_) (rz.append (.cons rfl .nil)) ?_ ⟨r.fresh hfr, Lift.fresh hfr, ?_⟩
  · exact upN outer s H { s with heap := s.heap.push { cls := .type "tuple", data := .seq ([] : List Value).toArray } } (upd H s.heap.objs.size (.tup [])) E e s' un (fun b o q => Heap.get?_push_of_some _ q) rfl z
  · rw [List.length_append, List.length_append, rz.length, l2]; rfl
  · refine (qz.lift (Lift.fresh hfr)).append (DVs.cons ?_ DVs.nil)
    exact dv_tup (SqT.of upd_same) DVs.nil
end
theorem hu64 {A : Around} {k : Nat} (hr : Room k A) : A.units + 64 < cLine := hr.units
theorem hu128 {A : Around} {k : Nat} (hr : Room k A) : A.units + 128 < cLine := by have := hr.un; omega
end Br
end
section
namespace Br
open PySem PySem.Spec PyProof.Rows L2
/-- a comparison as a test -/
def tC (f : FE) : FT := fun ρ M => (f ρ M).bind fun x M1 => match x with
  | .bl b => .ok b M1
  | _ => .no
section
variable {X : Cx} {W : WX} {a b : Expr} {fa fb : FE} {pos : Pos}
theorem R.bind_assoc {α β γ : Type} (r : R α) (f : α → Mem → R β) (g : β → Mem → R γ) : (r.bind f).bind g = r.bind fun a M => (f a M).bind g := by cases r <;> rfl
theorem mt_cmp {op : CmpOp} {g : F2} (ho : OpM X (compareOp op) g) (ha : ME X W a fa) (hb : ME X W b fb) (hm : behindInMarks op b = false) : MT X W (.Compare a [op] [b] pos) (tC (e2 g fa fb)) := by
  refine ⟨fun pins s σ H Q I h => ?_⟩
  refine (pt_cmpR (ho (fun c d H' => W c d σ H')) ha hb hm).run pins s σ H Q I ?_
  have e0 : tC (e2 g fa fb) = fun ρ M => (fa ρ M).bind fun x M1 => (fb ρ M1).bind fun y M2 => (g x y M2).bind fun z M3 => match z with
      | .bl b => .ok b M3
      | _ => .no := by
    funext ρ M
    unfold tC e2
    rw [R.bind_assoc]
    congr 1
    funext x M1
    rw [R.bind_assoc]
  rw [e0] at h
  refine tM.mono (fun v H1 ⟨μ, M, ρ, d, r, e, q, a1⟩ => ?_) (tM.seq (rel := DV X.K) h)
  have a2 := Ans.bind (rel := DV X.K) a1
  refine ⟨μ, M, ρ, r, e, a2.mono (fun u H2 ⟨μ1, M1, d1, l, r1, q1, a3⟩ => ⟨μ1, M1, d, d1, r1, q.lift l, q1, ?_⟩) fun _ _ _ z => z⟩
  have a4 := Ans.bind (rel := DV X.K) a3
  refine a4.mono (fun z H3 ⟨μ3, M3, d3, l3, r3, q3, a5⟩ => ?_) fun _ _ _ z => z
  cases d3 with
  | bl k => exact ⟨k, by unfold DV at q3; exact q3, a5 μ3 H3 k (Lift.refl ..) r3 rfl⟩
  | _ => exact a5.elim
end
section
variable {P : Program} {w : World} {K : PySem.W.Frag} {mg : Str → Option Value} {base : Heap}
theorem AB.of_starN {fd : FuncData} {ps : List Str} {pv : Str} (n : Nat) (hn : ps.length ≤ n) (hz : n ≤ 1000)
    (hb : ∀ us rest : List Value, us.length = ps.length → rest.length = n - ps.length → bindArgs fd ⟨us ++ rest, []⟩ = (newTuple rest >>= fun t => pure (ps.zip us ++ [(pv, t)]))) : AB P w K mg base fd (ps ++ [pv]) n [] (fun ds _ => ds.take ps.length ++ [.tup (ds.drop ps.length)]) := by
  refine ⟨fun A outer s H E us ws vs zs μ M ds es e0 l1 l2 rv rz r q qz A' Ex Q k => ?_⟩
  have hu : us = us.take ps.length ++ us.drop ps.length := (List.take_append_drop ..).symm
  have hlu : (us.take ps.length).length = ps.length := by rw [List.length_take]; omega
  show wpAny _ _ (bindArgs fd ⟨us, []⟩) _ _ _
  rw [hu, hb _ _ hlu (by rw [List.length_drop, l1])]
  have hld : (us.drop ps.length).length ≤ sizeLine := by
    rw [List.length_drop, l1]
    have : (1000 : Nat) ≤ sizeLine := by decide
    omega
  refine wpAny_bind (wpAny_newObj_type ?_ hld)
  refine wpAny_pure ?_
  have hfr : H s.heap.objs.size = Option.none := e0.hok.fresh (Nat.le_refl _)
  have new : ObjOk P w (upd H s.heap.objs.size (.tup (vs.drop ps.length))) (s.heap.push { cls := .type "tuple", data := .seq (us.drop ps.length).toArray }) s.heap.objs.size (.tup (vs.drop ps.length)) := by
    refine ⟨by rw [List.length_drop, rv.length, ← List.length_drop]; exact hld, us.drop ps.length, rv.drop _, ?_⟩
    exact IsTup.new s.heap _
  have e1 := StX.env0_laid e0 new
  have un : Un (frs outer) [] H (upd H s.heap.objs.size (.tup (vs.drop ps.length))) s.heap (s.heap.push { cls := .type "tuple", data := .seq (us.drop ps.length).toArray }) := StX.un_laid hfr
  have hz : (ps ++ [pv]).zip (us.take ps.length ++ [Value.ref s.heap.objs.size]) = ps.zip (us.take ps.length) ++ [(pv, Value.ref s.heap.objs.size)] := by
    rw [List.zip_append hlu.symm]; rfl
  rw [← hz]
  refine k { s with heap := s.heap.push { cls := .type "tuple", data := .seq (us.drop ps.length).toArray } } _ (vs.take ps.length ++ [V.ref s.heap.objs.size]) _ e1 un rfl (fun e s' z => ?_) ((rv.take _).append (.cons rfl .nil)) ?_ ⟨r.fresh hfr, Lift.fresh hfr, ?_⟩
  · exact upN outer s H { s with heap := s.heap.push { cls := .type "tuple", data := .seq (us.drop ps.length).toArray } } (upd H s.heap.objs.size (.tup (vs.drop ps.length))) E e s' un (fun b o q => Heap.get?_push_of_some _ q) rfl z
  · rw [List.length_append, List.length_append, List.length_take, rv.length, l1]
    simp only [List.length_singleton]; omega
  · refine ((q.take _).lift (Lift.fresh hfr)).append (DVs.cons ?_ DVs.nil)
    unfold DV
    exact ⟨_, _, rfl, SqT.of upd_same, (q.drop _).lift (Lift.fresh hfr)⟩
end
end Br
end
section
namespace Br
open PySem PySem.Spec PyProof.Rows
/-! ### plain lemmas over the functions -/
theorem sFor_inv {gg : FG} {b : FStm} (I : Nat → En → Mem → Prop) : ∀ (l : List D) (i : Nat) (ρ : En) (M : Mem), I i ρ M →
    (∀ x i ρ M, x ∈ l → I i ρ M → ∃ ρ1 M1 ρ2 M2, gg x ρ M = .go .nx ρ1 M1 ∧ b ρ1 M1 = .go .nx ρ2 M2 ∧ I (i + 1) ρ2 M2) → ∃ ρ' M', sFor gg b l ρ M = .go .nx ρ' M' ∧ I (i + l.length) ρ' M'
  | [], i, ρ, M, h, _ => ⟨ρ, M, rfl, h⟩
  | x :: l, i, ρ, M, h, hs => by
    obtain ⟨ρ1, M1, ρ2, M2, e1, e2, h2⟩ := hs x i ρ M (List.mem_cons_self ..) h
    obtain ⟨ρ', M', e3, h3⟩ := sFor_inv I l (i + 1) ρ2 M2 h2 fun x i ρ M hx => hs x i ρ M (List.mem_cons_of_mem _ hx)
    refine ⟨ρ', M', ?_, by rw [List.length_cons]; have : i + (l.length + 1) = i + 1 + l.length := by omega
                           rw [this]; exact h3⟩
    unfold sFor turn
    rw [e1]; dsimp only; rw [e2]; exact e3
theorem sFor_at {gg : FG} {b : FStm} (I : Nat → En → Mem → Prop) (xs : List D) : ∀ (l : List D) (i : Nat) (ρ : En) (M : Mem), l = xs.drop i → I i ρ M →
    (∀ x i ρ M, xs[i]? = some x → I i ρ M → ∃ ρ1 M1 ρ2 M2, gg x ρ M = .go .nx ρ1 M1 ∧ b ρ1 M1 = .go .nx ρ2 M2 ∧ I (i + 1) ρ2 M2) → ∃ ρ' M', sFor gg b l ρ M = .go .nx ρ' M' ∧ I (i + l.length) ρ' M'
  | [], i, ρ, M, _, h, _ => ⟨ρ, M, rfl, h⟩
  | x :: l, i, ρ, M, hl, h, hs => by
    have hx : xs[i]? = some x := by
      have : (xs.drop i)[0]? = some x := by rw [← hl]; rfl
      simpa using this
    have hl2 : l = xs.drop (i + 1) := by
      have : (x :: l).drop 1 = (xs.drop i).drop 1 := by rw [hl]
      simpa [List.drop_drop, Nat.add_comm] using this
    obtain ⟨ρ1, M1, ρ2, M2, e1, e2, h2⟩ := hs x i ρ M hx h
    obtain ⟨ρ', M', e3, h3⟩ := sFor_at I xs l (i + 1) ρ2 M2 hl2 h2 hs
    refine ⟨ρ', M', ?_, by rw [List.length_cons]; have : i + (l.length + 1) = i + 1 + l.length := by omega
                           rw [this]; exact h3⟩
    unfold sFor turn
    rw [e1]; dsimp only; rw [e2]; exact e3
theorem mulOk_l {i j : Int} (h1 : -(2 ^ 64) < i) (h2 : i < 2 ^ 64) : mulOk i j = true := by unfold mulOk; exact decide_eq_true (.inl ⟨h1, h2⟩)
theorem mulOk_r {i j : Int} (h1 : -(2 ^ 64) < j) (h2 : j < 2 ^ 64) : mulOk i j = true := by unfold mulOk; exact decide_eq_true (.inr (.inl ⟨h1, h2⟩))
mutual
theorem toPyR_mono (rs : Nat → Option PyData) : ∀ (d : D) (p : PyData), toPyR (fun _ => none) d = some p → toPyR rs d = some p
  | .non, p, h => by unfold toPyR at h ⊢; exact h
  | .bl b, p, h => by unfold toPyR at h ⊢; exact h
  | .int b, p, h => by unfold toPyR at h ⊢; exact h
  | .str b, p, h => by unfold toPyR at h ⊢; exact h
  | .gl b, p, h => by unfold toPyR at h; cases h
  | .ty b, p, h => by unfold toPyR at h; cases h
  | .ptp b, p, h => by unfold toPyR at h; cases h
  | .exc _ _ b, p, h => by unfold toPyR at h; cases h
  | .adr b c, p, h => by unfold toPyR at h; cases h
  | .ref b, p, h => by unfold toPyR at h; cases h
  | .tup xs, p, h => by
    unfold toPyR at h ⊢
    cases e : toPysR (fun _ => none) xs with
    | none => rw [e] at h; cases h
    | some ps => rw [e] at h; rw [toPysR_mono rs xs ps e]; exact h
  | .lst xs, p, h => by
    unfold toPyR at h ⊢
    cases e : toPysR (fun _ => none) xs with
    | none => rw [e] at h; cases h
    | some ps => rw [e] at h; rw [toPysR_mono rs xs ps e]; exact h
theorem toPysR_mono (rs : Nat → Option PyData) : ∀ (d : List D) (p : List PyData), toPysR (fun _ => none) d = some p → toPysR rs d = some p
  | [], p, h => by unfold toPysR at h ⊢; exact h
  | x :: xs, p, h => by
    unfold toPysR at h ⊢
    cases e : toPyR (fun _ => none) x with
    | none => rw [e] at h; cases h
    | some q =>
      rw [e] at h; rw [toPyR_mono rs x q e]
      cases e2 : toPysR (fun _ => none) xs with
      | none => simp [e2] at h
      | some ps => rw [toPysR_mono rs xs ps e2]; simpa [e2] using h
end
/-- data that repr shows -/
def okp (d : D) : Bool := match toPyR (fun _ => none) d with
  | some p => p.layable0 && p.intsShort 13 && p.showable
  | none => false
theorem gRepr_ok {d : D} (h : okp d = true) (M : Mem) : ∃ z, gRepr [d] M = .ok (.str z) M := by
  unfold okp at h
  cases e : toPyR (fun _ => none) d with
  | none => rw [e] at h; cases h
  | some p =>
    rw [e] at h
    simp only [Bool.and_eq_true] at h
    obtain ⟨⟨h1, h2⟩, h3⟩ := h
    have e2 : toPy M d = some p := toPyR_mono _ _ _ e
    have h4 := PyData.hasDict_of_layable h1
    have h5 := shown_le13 h1 h2
    have h6 : p.depth ≤ 64 := by
      have hl' : (p.canLay0 && decide (p.depth ≤ 64) && decide (p.weight ≤ 2 ^ 20)) = true := h1
      simp only [Bool.and_eq_true, decide_eq_true_eq] at hl'
      exact hl'.1.2
    refine ⟨p.shown, ?_⟩
    unfold gRepr
    dsimp only
    rw [e2]
    dsimp only
    rw [if_pos]
    simp only [h3, h4, Bool.not_false, Bool.and_self, Bool.true_and, Bool.and_eq_true, decide_eq_true_eq]
    exact ⟨h6, Nat.le_trans h5 (by decide)⟩
end Br
end
section
namespace Br
open PySem PySem.Spec PyProof.Rows L2
/-! ### list comprehensions -/
section
variable {K : PySem.W.Frag} {μ μ' : Nat → Addr} {N N' : Nat} {H H' : Hp}
mutual
theorem DV.kq (k : Kp H H') (le : N ≤ N') (sm : ∀ n, n < N → μ' n = μ n) : ∀ (d : D) (v : V), DV K μ N H d v → DV K μ' N' H' d v
  | .non, v, h => by unfold DV at h ⊢; exact h
  | .bl b, v, h => by unfold DV at h ⊢; exact h
  | .int i, v, h => by unfold DV at h ⊢; exact h
  | .str x, v, h => by unfold DV at h ⊢; exact h
  | .gl x, v, h => by unfold DV at h ⊢; exact h
  | .ty x, v, h => by unfold DV at h ⊢; exact h
  | .adr x dd, v, h => by unfold DV at h ⊢; exact ⟨h.1, k.stays h.2⟩
  | .ptp ds, v, h => by
    unfold DV at h ⊢
    obtain ⟨a, xs, o, e, q, c1, c2, r⟩ := h
    exact ⟨a, xs, o, e, k.frz _ _ _ q, c1, c2, DVs.kq k le sm ds xs r⟩
  | .exc c f ds, v, h => by
    unfold DV at h ⊢
    obtain ⟨a, oe, u, vs, xs, e, q, c1, c2, r, z⟩ := h
    exact ⟨a, oe, u, vs, xs, e, k.frz _ _ _ q, c1, c2, DVs.kq k le sm ds xs r, z.elim .inl fun ⟨x, dx, od, z1, z2, z3⟩ => .inr ⟨x, dx, od, z1, z2, k.frz _ _ _ z3⟩⟩
  | .ref x, v, h => by unfold DV at h ⊢; exact ⟨Nat.lt_of_lt_of_le h.1 le, by rw [sm _ h.1]; exact h.2⟩
  | .tup ds, v, h => by
    unfold DV at h ⊢
    obtain ⟨a, xs, e, q, r⟩ := h
    exact ⟨a, xs, e, k.sqT q, DVs.kq k le sm ds xs r⟩
  | .lst ds, v, h => by
    unfold DV at h ⊢
    obtain ⟨a, xs, e, q, r⟩ := h
    exact ⟨a, xs, e, k.sqF q, DVs.kq k le sm ds xs r⟩
theorem DVs.kq (k : Kp H H') (le : N ≤ N') (sm : ∀ n, n < N → μ' n = μ n) : ∀ (ds : List D) (vs : List V), DVs K μ N H ds vs → DVs K μ' N' H' ds vs
  | [], vs, h => by unfold DVs at h ⊢; exact h
  | d :: ds, vs, h => by
    unfold DVs at h ⊢
    obtain ⟨v, r, e, h1, h2⟩ := h
    exact ⟨v, r, e, DV.kq k le sm d v h1, DVs.kq k le sm ds r h2⟩
end
theorem DV.kp (k : Kp H H') (d : D) (v : V) (h : DV K μ N H d v) : DV K μ N H' d v := DV.kq k (Nat.le_refl _) (fun _ _ => rfl) d v h
theorem DVs.kp (k : Kp H H') (ds : List D) (vs : List V) (h : DVs K μ N H ds vs) : DVs K μ N H' ds vs := DVs.kq k (Nat.le_refl _) (fun _ _ => rfl) ds vs h
theorem FV.mu (le : N ≤ N') (sm : ∀ n, n < N → μ' n = μ n) : ∀ {ps : List (Str × D)} {fs : List (Str × V)}, FV K μ N H ps fs → FV K μ' N' H ps fs
  | [], fs, h => h
  | p :: ps, fs, h => let ⟨v, r, e, h1, h2⟩ := h; ⟨v, r, e, DV.kq (Kp.refl _) le sm _ _ h1, FV.mu le sm h2⟩
theorem KVs.mu (le : N ≤ N') (sm : ∀ n, n < N → μ' n = μ n) : ∀ {ps : List (Key × D)} {fs : List (Key × V)}, KVs K μ N H ps fs → KVs K μ' N' H ps fs
  | [], fs, h => h
  | p :: ps, fs, h => let ⟨v, r, e, h1, h2⟩ := h; ⟨v, r, e, DV.kq (Kp.refl _) le sm _ _ h1, KVs.mu le sm h2⟩
theorem OV.mu {a : Addr} {o : MO} (le : N ≤ N') (sm : ∀ n, n < N → μ' n = μ n) (h : OV K μ N H a o) : OV K μ' N' H a o := by
  cases o with
  | lst ds => obtain ⟨xs, h1, h2⟩ := h; exact ⟨xs, h1, DVs.kq (Kp.refl _) le sm _ _ h2⟩
  | dic kvs => obtain ⟨xs, h1, h2⟩ := h; exact ⟨xs, h1, h2.mu le sm⟩
  | ins c fs => obtain ⟨dx, xs, h1, h2⟩ := h; exact ⟨dx, xs, h1, h2.mu le sm⟩
theorem FV.kp (k : Kp H H') : ∀ {ps : List (Str × D)} {fs : List (Str × V)}, FV K μ N H ps fs → FV K μ N H' ps fs
  | [], fs, h => h
  | p :: ps, fs, h => let ⟨v, r, e, h1, h2⟩ := h; ⟨v, r, e, DV.kp k _ _ h1, FV.kp k h2⟩
theorem KVs.kp (k : Kp H H') : ∀ {ps : List (Key × D)} {fs : List (Key × V)}, KVs K μ N H ps fs → KVs K μ N H' ps fs
  | [], fs, h => h
  | p :: ps, fs, h => let ⟨v, r, e, h1, h2⟩ := h; ⟨v, r, e, DV.kp k _ _ h1, KVs.kp k h2⟩
theorem OV.kp {a : Addr} {o : MO} (k : Kp H H') (e : ∀ u, H a = Option.some u → H' a = Option.some u) (h : OV K μ N H a o) : OV K μ N H' a o := by
  cases o with
  | lst ds => obtain ⟨xs, h1, h2⟩ := h; exact ⟨xs, e _ h1, DVs.kp k _ _ h2⟩
  | dic kvs => obtain ⟨xs, h1, h2⟩ := h; exact ⟨xs, e _ h1, h2.kp k⟩
  | ins c fs => obtain ⟨dx, xs, h1, h2⟩ := h; exact ⟨dx, xs, e _ h1, h2.kp k⟩
theorem EV.kp (k : Kp H H') {ρ : En} {σ : L2.St} (h : EV K μ N H ρ σ) : EV K μ N H' ρ σ :=
  ⟨h.len, fun i d e => let ⟨v, e1, e2⟩ := h.at_ i d e; ⟨v, e1, DV.kp k _ _ e2⟩⟩
theorem Rel.poke {M : Mem} {p : Addr} {o : HO} (r : Rel K μ M H) (k : Kp H (upd H p o)) (hp : ∀ n, n < M.length → μ n ≠ p) : Rel K μ M (upd H p o) :=
  ⟨fun n o' e => OV.kp k (fun u q => by rw [upd_ne (hp n (List.getElem?_eq_some_iff.mp e).1)]; exact q) (r.obj n o' e), r.inj⟩
theorem Lift.poke {p : Addr} {o : HO} (l : Lift μ N H μ' N' H') (h : H p = none) (k : Kp H' (upd H' p o)) : Lift μ N H μ' N' (upd H' p o) :=
  ⟨l.le, l.same, l.kp.trans k, fun b u e hn => by rw [upd_ne (ne_of_none e h)]; exact l.fr b u e hn, l.new, fun b e => l.dom b (dom_upd e)⟩
theorem Lift.out {p : Addr} {u : HO} (l : Lift μ N H μ' N' H') (h : H p = some u) (hp : ∀ n, n < N → μ n ≠ p) : ∀ n, n < N' → μ' n ≠ p := fun n hn => by
  by_cases q : n < N
  · rw [l.same n q]; exact hp n q
  · intro e
    have := l.new n (Nat.le_of_not_lt q) hn
    rw [e, h] at this
    cases this
theorem Rel.adopt {M : Mem} {p : Addr} {ds : List D} {vs : List V} (r : Rel K μ M H) (hp : ∀ n, n < M.length → μ n ≠ p) (h : H p = Option.some (.lst vs)) (q : DVs K μ M.length H ds vs) : Rel K (ext μ M.length p) (M ++ [.lst ds]) H := by
  have le : M.length ≤ (M ++ [MO.lst ds]).length := by simp
  have sm : ∀ n, n < M.length → ext μ M.length p n = μ n := fun n hn => if_neg (Nat.ne_of_lt hn)
  have e2 : ext μ M.length p M.length = p := if_pos rfl
  refine ⟨fun n o' e => ?_, fun i j hi hj e => ?_⟩
  · by_cases hn : n < M.length
    · rw [List.getElem?_append_left hn] at e
      rw [sm n hn]
      exact OV.mu le sm (r.obj n o' e)
    · have hl := (List.getElem?_eq_some_iff.mp e).1
      rw [List.length_append, List.length_singleton] at hl
      have hn' : n = M.length := by omega
      subst hn'
      rw [List.getElem?_append_right (Nat.le_refl _), Nat.sub_self] at e
      have e1 := Option.some.inj e
      subst e1
      rw [e2]; exact ⟨vs, h, DVs.kq (Kp.refl _) le sm _ _ q⟩
  · rw [List.length_append, List.length_singleton] at hi hj
    unfold ext at e
    by_cases h1 : i = M.length
    · by_cases h2 : j = M.length
      · omega
      · rw [if_pos h1, if_neg h2] at e
        exact absurd e.symm (hp j (by omega))
    · by_cases h2 : j = M.length
      · rw [if_neg h1, if_pos h2] at e
        exact absurd e (hp i (by omega))
      · rw [if_neg h1, if_neg h2] at e
        exact r.inj i j (by omega) (by omega) e
theorem Lift.adopt {M' : Mem} {p : Addr} {m : MO} (l : Lift μ N H μ' M'.length H') (h : H p = none) : Lift μ N H (ext μ' M'.length p) (M' ++ [m]).length H' := by
  have e2 : ext μ' M'.length p M'.length = p := if_pos rfl
  have sm : ∀ n, n < M'.length → ext μ' M'.length p n = μ' n := fun n hn => if_neg (Nat.ne_of_lt hn)
  refine ⟨Nat.le_trans l.le (by simp), fun n hn => by rw [sm n (Nat.lt_of_lt_of_le hn l.le)]; exact l.same n hn, l.kp, l.fr, fun n h1 h2 => ?_, l.dom⟩
  rw [List.length_append, List.length_singleton] at h2
  by_cases hn : n < M'.length
  · rw [sm n hn]; exact l.new n h1 hn
  · have : n = M'.length := by omega
    rw [this, e2]; exact h
end
def wipeE (ρ : En) : List Nat → En
  | [] => ρ
  | v :: vs => (wipeE ρ vs).set v none
theorem EV.unset {K : PySem.W.Frag} {μ : Nat → Addr} {N : Nat} {H : Hp} {ρ : En} {σ : L2.St} (h : EV K μ N H ρ σ) (i : Nat) : EV K μ N H (ρ.set i none) (σ.set i none) := by
  refine ⟨by rw [List.length_set, List.length_set]; exact h.len, fun j e hj => ?_⟩
  by_cases hij : i = j
  · subst hij
    have hl : i < ρ.length := by
      have := (List.getElem?_eq_some_iff.mp hj).1
      simpa using this
    rw [List.getElem?_set_self hl] at hj
    cases hj
  · rw [List.getElem?_set_ne hij] at hj
    obtain ⟨w, e1, e2⟩ := h.at_ j e hj
    exact ⟨w, by rw [List.getElem?_set_ne hij]; exact e1, e2⟩
theorem EV.wipe {K : PySem.W.Frag} {μ : Nat → Addr} {N : Nat} {H : Hp} {ρ : En} {σ : L2.St} (h : EV K μ N H ρ σ) : ∀ vs : List Nat, EV K μ N H (wipeE ρ vs) (wipe σ vs)
  | [] => h
  | v :: vs => (h.wipe vs).unset v
theorem wipe_get (σ : L2.St) (j : Nat) : ∀ vs : List Nat, (wipe σ vs)[j]? = if j ∈ vs then (σ[j]?).map (fun _ => none) else σ[j]?
  | [] => by simp [wipe]
  | v :: vs => by
    have ih := wipe_get σ j vs
    unfold wipe
    by_cases h : v = j
    · subst h
      by_cases hl : v < (wipe σ vs).length
      · rw [List.getElem?_set_self hl]
        rw [wipe_length] at hl
        simp [hl]
      · rw [List.getElem?_eq_none (by simpa using hl)]
        rw [wipe_length] at hl
        have : σ[v]? = none := List.getElem?_eq_none (Nat.le_of_not_lt hl)
        simp [this]
    · rw [List.getElem?_set_ne h, ih]
      have : j ≠ v := fun e => h e.symm
      simp [this]
theorem wipe_set {σ τ : L2.St} {vs : List Nat} {i : Nat} {o : Option V} (h : wipe τ vs = wipe σ vs) (hi : i ∈ vs) : wipe (τ.set i o) vs = wipe σ vs := by
  rw [← h]
  refine List.ext_getElem? fun j => ?_
  rw [wipe_get, wipe_get]
  by_cases hj : j ∈ vs
  · rw [if_pos hj, if_pos hj]
    by_cases hij : i = j
    · subst hij
      by_cases hl : i < τ.length
      · rw [List.getElem?_set_self hl]; simp [hl]
      · rw [List.getElem?_eq_none (by simpa using hl), List.getElem?_eq_none (by simpa using hl)]
    · rw [List.getElem?_set_ne hij]
  · rw [if_neg hj, if_neg hj, List.getElem?_set_ne (fun e : i = j => hj (by rw [← e]; exact hi))]
theorem wipe_wipe (σ : L2.St) (vs : List Nat) : wipe (wipe σ vs) vs = wipe σ vs := by
  refine List.ext_getElem? fun j => ?_
  rw [wipe_get, wipe_get]
  by_cases hj : j ∈ vs
  · rw [if_pos hj, if_pos hj]; cases σ[j]? <;> rfl
  · rw [if_neg hj, if_neg hj]
/-- a target of the block's own names -/
structure OwnG (K : PySem.W.Frag) (g : TG) (gg : FG) (vs : List Nat) : Prop where
  go : ∀ (μ : Nat → Addr) (M : Mem) (H : Hp) (ρ : En) (σ τ : L2.St) (d : D) (x : V) (ρ1 : En) (M1 : Mem) (Q : L2.St → Hp → Prop), Rel K μ M H → EV K μ M.length H ρ τ → wipe τ vs = wipe σ vs → DV K μ M.length H d x → gg d ρ M = .go .nx ρ1 M1 →
    (M1 = M → ∀ σ2, EV K μ M.length H ρ1 σ2 → wipe σ2 vs = wipe σ vs → Q σ2 H) → g x τ H Q
structure OwnGs (K : PySem.W.Frag) (g : TGs) (gg : List D → FStm) (vs : List Nat) : Prop where
  go : ∀ (μ : Nat → Addr) (M : Mem) (H : Hp) (ρ : En) (σ τ : L2.St) (ds : List D) (xs : List V) (ρ1 : En) (M1 : Mem) (Q : L2.St → Hp → Prop), Rel K μ M H → EV K μ M.length H ρ τ → wipe τ vs = wipe σ vs → DVs K μ M.length H ds xs → gg ds ρ M = .go .nx ρ1 M1 →
    (M1 = M → ∀ σ2, EV K μ M.length H ρ1 σ2 → wipe σ2 vs = wipe σ vs → Q σ2 H) → g xs τ H Q
theorem own_n {K : PySem.W.Frag} {i : Nat} {vs : List Nat} (hi : i ∈ vs) : OwnG K (gName i) (gN i) vs :=
  ⟨fun μ M H ρ σ τ d x ρ1 M1 Q r e w q h k => by cases h; exact k rfl _ (e.set q i) (wipe_set w hi)⟩
theorem own_nil {K : PySem.W.Frag} {vs : List Nat} : OwnGs K gNil gsN vs :=
  ⟨fun μ M H ρ σ τ ds xs ρ1 M1 Q r e w q h k => by
    cases ds with
    | nil => cases h; exact ⟨q.inv_nil, k rfl _ e w⟩
    | cons d ds => cases h⟩
theorem own_cons {K : PySem.W.Frag} {vs : List Nat} {g : TG} {gs : TGs} {gg : FG} {ggs : List D → FStm} (h1 : OwnG K g gg vs) (h2 : OwnGs K gs ggs vs) : OwnGs K (gCons g gs) (gsC gg ggs) vs :=
  ⟨fun μ M H ρ σ τ ds xs ρ1 M1 Q r e w q h k => by
    cases ds with
    | nil => cases h
    | cons d ds =>
      obtain ⟨v, t, ev, q1, q2⟩ := q.inv_cons
      refine ⟨v, t, ev, ?_⟩
      unfold gsC at h
      dsimp only at h
      cases hg : gg d ρ M with
      | go f ρ2 M2 =>
        rw [hg] at h
        cases f with
        | nx => exact h1.go μ M H ρ σ τ d v ρ2 M2 _ r e w q1 hg fun em σ2 e2 w2 => by subst em; exact h2.go μ M2 H ρ2 σ σ2 ds t ρ1 M1 Q r e2 w2 q2 h k
        | _ => cases h
      | _ => rw [hg] at h; cases h⟩
theorem own_tup {K : PySem.W.Frag} {vs : List Nat} {n : Nat} {gs : TGs} {ggs : List D → FStm} (h2 : OwnGs K gs ggs vs) : OwnG K (L2.gTup K n gs) (gTp n ggs) vs :=
  ⟨fun μ M H ρ σ τ d x ρ1 M1 Q r e w q h k => by
    unfold gTp at h
    split at h
    · split at h
      · rename_i ds hl
        obtain ⟨p, xs, ev, sq, dq⟩ := tup_dv q
        exact ⟨p, xs, ev, sq, by rw [dq.length]; exact hl, h2.go μ M H ρ σ τ ds xs ρ1 M1 Q r e w dq h k⟩
      · cases h
    · cases h⟩
/-- the turns of a comprehension over items, its names wiped in ρ -/
def lcGo (gg : FG) (tt : FT) (te : FE) (ρ : En) : List D → List D → Mem → R (List D)
  | [], acc, M => .ok acc M
  | x :: xs, acc, M => match gg x ρ M with
    | .go .nx ρ1 M1 => (match tt ρ1 M1 with
      | .ok true M2 => (match te ρ1 M2 with
        | .ok y M3 => if acc.length < sizeLine then lcGo gg tt te ρ xs (acc ++ [y]) M3 else .no
        | _ => .no)
      | .ok false M2 => lcGo gg tt te ρ xs acc M2
      | _ => .no)
    | _ => .no
/-- over the n-th list of the memory as it stands at each turn, at most so many turns -/
def lcGoL (gg : FG) (tt : FT) (te : FE) (ρ : En) (n : Nat) : Nat → Nat → List D → Mem → R (List D)
  | 0, _, _, _ => .no
  | m + 1, i, acc, M => match M[n]? with
    | some (.lst ds) => (match ds[i]? with
      | none => .ok acc M
      | some x => (match gg x ρ M with
        | .go .nx ρ1 M1 => (match tt ρ1 M1 with
          | .ok true M2 => (match te ρ1 M2 with
            | .ok y M3 => if acc.length < sizeLine then lcGoL gg tt te ρ n m (i + 1) (acc ++ [y]) M3 else .no
            | _ => .no)
          | .ok false M2 => lcGoL gg tt te ρ n m (i + 1) acc M2
          | _ => .no)
        | _ => .no))
    | _ => .no
def lcW (gg : FG) (tt : FT) (te : FE) (ρ : En) (w : Wk) (M : Mem) : R (List D) := match w with
  | .items ds => lcGo gg tt te ρ ds [] M
  | .obj n => lcGoL gg tt te ρ n 100000 0 [] M
def eLcV (vs : List Nat) (fw : En → Mem → R Wk) (gg : FG) (tt : FT) (te : FE) : FE := fun ρ M => (fw ρ M).bind fun w M1 => (lcW gg tt te (wipeE ρ vs) w M1).bind fun acc M2 => .ok (.lst acc) M2
def eLcN (vs : List Nat) (fw : En → Mem → R Wk) (gg : FG) (tt : FT) (te : FE) : FE := fun ρ M => (fw ρ M).bind fun w M1 => (lcW gg tt te (wipeE ρ vs) w M1).bind fun acc M2 => .ok (.ref M2.length) (M2 ++ [.lst acc])
def tYesM : FT := fun _ M => .ok true M
abbrev WF : WX := fun _ _ _ _ => False
def MTs (X : Cx) (W : WX) (ifs : List Expr) (f : FT) : Prop := PTs X ifs (tM X.K BV W f)
theorem PTs.weak {X : Cx} {ifs : List Expr} {t t' : TT} (h : PTs X ifs t) (w : ∀ σ H Q, t' σ H Q → t σ H Q) : PTs X ifs t' := ⟨fun pins s σ H Q I hw => h.run pins s σ H Q I (w σ H Q hw)⟩
theorem mts_nil {X : Cx} {W : WX} : MTs X W [] tYesM := PTs.weak pts_nil fun σ H Q ⟨μ, M, ρ, r, e, a⟩ => a μ H true (Lift.refl ..) r rfl
theorem mts_one {X : Cx} {W : WX} {c : Expr} {f : FT} (h : MT X W c f) : MTs X W [c] f := pts_one h
section
variable {K : PySem.W.Frag} {gg : FG} {tt : FT} {te : FE} {ρw : En} {g : TG} {vs : List Nat}
/-- what the turns are to reach, dl the new list -/
def AnsD (K : PySem.W.Frag) (μ : Nat → Addr) (N : Nat) (H : Hp) (dl : Addr) (r : R (List D)) (Q : Hp → Prop) : Prop := match r with
  | .ok acc M' => ∀ μ' H' accV, Lift μ N H μ' M'.length H' → Rel K μ' M' H' → (∀ n, n < M'.length → μ' n ≠ dl) → H' dl = some (.lst accV) → DVs K μ' M'.length H' acc accV → Q H'
  | _ => False
theorem lc_turns (own : OwnG K g gg vs) {μ : Nat → Addr} {M : Mem} {H1 : Hp} {dl : Addr} {σ : L2.St} {Q : Hp → Prop} {ds : List D} {J : It} (hD : H1 dl = none) (r : Rel K μ M H1) (e : EV K μ M.length H1 ρw (wipe σ vs)) (hw : WkR K μ M.length H1 (.items ds) J)
    (a : AnsD K μ M.length H1 dl (lcGo gg tt te ρw ds [] M) Q) :
    ∃ W : Nat → Nat → Hp → Prop, (∃ m, W 0 m (upd H1 dl (.lst []))) ∧ ∀ i m H, W i m H →
      (J.stop i H ∧ Q H) ∨ (J.go i H ∧ ∃ Nx : Hp → Prop, (∀ H', Nx H' → ∃ m', m' < m ∧ W (i + 1) m' H') ∧ ∀ x H', J.yld i H x H' → g x (wipe σ vs) H' fun σ2 H2 => wipe σ2 vs = wipe σ vs ∧ tM K BV WF tt σ2 H2 fun b H3 =>
        if b = true then tM K (DV K) WF te σ2 H3 fun y H4 => ∃ acc, H4 dl = some (.lst acc) ∧ acc.length < sizeLine ∧ Nx (upd H4 dl (.lst (acc ++ [y]))) else Nx H3) := by
  let I : List D → Mem → Hp → List D → Prop := fun todo M' H' acc => ∃ μ' accV, Lift μ M.length H1 μ' M'.length H' ∧ Rel K μ' M' H' ∧ (∀ n, n < M'.length → μ' n ≠ dl) ∧ H' dl = some (.lst accV) ∧ DVs K μ' M'.length H' acc accV ∧ AnsD K μ M.length H1 dl (lcGo gg tt te ρw todo acc M') Q
  refine ⟨fun i m H' => m = ds.length - i ∧ i ≤ ds.length ∧ ∃ M' acc, I (ds.drop i) M' H' acc, ⟨_, rfl, Nat.zero_le _, M, [], μ, [], Lift.fresh hD, r.fresh hD, fun n hn => r.ne hn hD, upd_same, DVs.nil, a⟩, ?_⟩
  rintro i m' H' ⟨rfl, hi, M', acc, μ', accV, l, r', ho, hd, dq, a'⟩
  obtain ⟨h1, h2⟩ := hw μ' M'.length H' l
  by_cases hlt : i < ds.length
  · have hdi : ds[i]? = some ds[i] := by simp [hlt]
    obtain ⟨h3, h4⟩ := h2 i ds[i] hdi
    refine .inr ⟨h3, fun H2 => i + 1 ≤ ds.length ∧ ∃ M' acc, I (ds.drop (i + 1)) M' H2 acc, fun H2 z => ⟨_, by omega, rfl, z.1, z.2⟩, fun x H2 y => ?_⟩
    obtain ⟨r2, l2, d2⟩ := h4 M' x H2 r' rfl y
    rw [List.drop_eq_getElem_cons hlt] at a'
    have hd2 := l2.fr dl _ hd ho
    have l3 := l.trans l2
    unfold lcGo at a'
    cases hg : gg ds[i] ρw M' with
    | go f ρ1 M1 =>
      rw [hg] at a'
      cases f with
      | nx =>
        refine own.go μ' M' H2 ρw σ (wipe σ vs) ds[i] x ρ1 M1 _ r2 (e.lift l3) (wipe_wipe σ vs) d2 hg fun em σ2 e2 w2 => ⟨w2, ?_⟩
        subst em
        dsimp only at a'
        refine ⟨μ', M1, ρ1, r2, e2, ?_⟩
        cases ht : tt ρ1 M1 with
        | no => rw [ht] at a'; exact a'.elim
        | ex x M2 => rw [ht] at a'; exact a'.elim
        | ok b M2 =>
          rw [ht] at a'
          rintro μ3 H3 b' l4 r3 (rfl : b = b')
          have hd3 := l4.fr dl _ hd2 ho
          have ho3 := l4.out hd2 ho |> fun z => z
          have dq3 := (dq.lift l2).lift l4
          cases b with
          | false =>
            rw [if_neg (by decide)]
            exact ⟨hlt, M2, acc, μ3, accV, l3.trans l4, r3, ho3, hd3, dq3, a'⟩
          | true =>
            rw [if_pos rfl]
            dsimp only at a'
            refine ⟨μ3, M2, ρ1, r3, e2.lift l4, ?_⟩
            cases hy : te ρ1 M2 with
            | no => rw [hy] at a'; exact a'.elim
            | ex x M3 => rw [hy] at a'; exact a'.elim
            | ok yd M3 =>
              rw [hy] at a'
              dsimp only at a'
              intro μ4 H4 yv l5 r4 q4
              have hd4 := l5.fr dl _ hd3 ho3
              have ho4 := l5.out hd3 ho3
              have dq4 := dq3.lift l5
              by_cases hl : acc.length < sizeLine
              · rw [if_pos hl] at a'
                refine ⟨accV, hd4, by rw [dq4.length]; exact hl, hlt, M3, acc ++ [yd], μ4, accV ++ [yv], ?_, ?_, ho4, upd_same, ?_, a'⟩
                · exact ((l3.trans l4).trans l5).poke hD (Kp.lst hd4)
                · exact r4.poke (Kp.lst hd4) ho4
                · exact DVs.kp (Kp.lst hd4) _ _ (dq4.append (DVs.cons q4 DVs.nil))
              · rw [if_neg hl] at a'; exact a'.elim
      | _ => exact a'.elim
    | _ => rw [hg] at a'; exact a'.elim
  · have e2 : i = ds.length := by omega
    subst e2
    rw [List.drop_length] at a'
    exact .inl ⟨h1, a' μ' H' accV l r' ho hd dq⟩
theorem lc_turnsL (own : OwnG K g gg vs) {μ : Nat → Addr} {M : Mem} {H1 : Hp} {dl : Addr} {σ : L2.St} {Q : Hp → Prop} {n fuel : Nat} {J : It} (hD : H1 dl = none) (r : Rel K μ M H1) (e : EV K μ M.length H1 ρw (wipe σ vs)) (hw : WkR K μ M.length H1 (.obj n) J)
    (a : AnsD K μ M.length H1 dl (lcGoL gg tt te ρw n fuel 0 [] M) Q) :
    ∃ W : Nat → Nat → Hp → Prop, (∃ m, W 0 m (upd H1 dl (.lst []))) ∧ ∀ i m H, W i m H →
      (J.stop i H ∧ Q H) ∨ (J.go i H ∧ ∃ Nx : Hp → Prop, (∀ H', Nx H' → ∃ m', m' < m ∧ W (i + 1) m' H') ∧ ∀ x H', J.yld i H x H' → g x (wipe σ vs) H' fun σ2 H2 => wipe σ2 vs = wipe σ vs ∧ tM K BV WF tt σ2 H2 fun b H3 =>
        if b = true then tM K (DV K) WF te σ2 H3 fun y H4 => ∃ acc, H4 dl = some (.lst acc) ∧ acc.length < sizeLine ∧ Nx (upd H4 dl (.lst (acc ++ [y]))) else Nx H3) := by
  obtain ⟨hn, eJ⟩ := hw
  subst eJ
  let I : Nat → Nat → Mem → Hp → List D → Prop := fun i m M' H' acc => ∃ μ' accV, Lift μ M.length H1 μ' M'.length H' ∧ Rel K μ' M' H' ∧ (∀ n, n < M'.length → μ' n ≠ dl) ∧ H' dl = some (.lst accV) ∧ DVs K μ' M'.length H' acc accV ∧ AnsD K μ M.length H1 dl (lcGoL gg tt te ρw n m i acc M') Q
  refine ⟨fun i m H' => ∃ M' acc, I i m M' H' acc, ⟨fuel, M, [], μ, [], Lift.fresh hD, r.fresh hD, fun n hn => r.ne hn hD, upd_same, DVs.nil, a⟩, ?_⟩
  rintro i m' H' ⟨M', acc, μ', accV, l, r', ho, hd, dq, a'⟩
  cases m' with
  | zero => exact a'.elim
  | succ m' =>
    unfold lcGoL at a'
    split at a'
    · rename_i ds hds
      obtain ⟨xs, hx, dx⟩ := r'.obj n _ hds
      have eμ : μ' n = μ n := l.same n hn
      rw [eμ] at hx
      split at a'
      · rename_i hnone
        have hl : ds.length ≤ i := List.getElem?_eq_none_iff.mp hnone
        exact .inl ⟨⟨xs, SqL.of hx, by rw [dx.length]; exact hl⟩, a' μ' H' accV l r' ho hd dq⟩
      · rename_i d hdi
        obtain ⟨v, hv, dv⟩ := dx.get hdi
        refine .inr ⟨⟨xs, v, SqL.of hx, hv⟩, fun H2 => ∃ M' acc, I (i + 1) m' M' H2 acc, fun H2 z => ⟨m', Nat.lt_succ_self _, z⟩, fun x H2 y => ?_⟩
        obtain ⟨e1, y⟩ := y
        subst e1
        have e2 := y xs (SqL.of hx)
        rw [hv] at e2
        cases e2
        have hd2 := hd
        have l3 := l
        cases hg : gg d ρw M' with
        | go f ρ1 M1 =>
          rw [hg] at a'
          cases f with
          | nx =>
            refine own.go μ' M' H2 ρw σ (wipe σ vs) d _ ρ1 M1 _ r' (e.lift l3) (wipe_wipe σ vs) dv hg fun em σ2 e2 w2 => ⟨w2, ?_⟩
            subst em
            dsimp only at a'
            refine ⟨μ', M1, ρ1, r', e2, ?_⟩
            cases ht : tt ρ1 M1 with
            | no => rw [ht] at a'; exact a'.elim
            | ex x M2 => rw [ht] at a'; exact a'.elim
            | ok b M2 =>
              rw [ht] at a'
              rintro μ3 H3 b' l4 r3 (rfl : b = b')
              have hd3 := l4.fr dl _ hd2 ho
              have ho3 := l4.out hd2 ho |> fun z => z
              have dq3 := dq.lift l4
              cases b with
              | false =>
                rw [if_neg (by decide)]
                exact ⟨M2, acc, μ3, accV, l3.trans l4, r3, ho3, hd3, dq3, a'⟩
              | true =>
                rw [if_pos rfl]
                dsimp only at a'
                refine ⟨μ3, M2, ρ1, r3, e2.lift l4, ?_⟩
                cases hy : te ρ1 M2 with
                | no => rw [hy] at a'; exact a'.elim
                | ex x M3 => rw [hy] at a'; exact a'.elim
                | ok yd M3 =>
                  rw [hy] at a'
                  dsimp only at a'
                  intro μ4 H4 yv l5 r4 q4
                  have hd4 := l5.fr dl _ hd3 ho3
                  have ho4 := l5.out hd3 ho3
                  have dq4 := dq3.lift l5
                  by_cases hl : acc.length < sizeLine
                  · rw [if_pos hl] at a'
                    refine ⟨accV, hd4, by rw [dq4.length]; exact hl, M3, acc ++ [yd], μ4, accV ++ [yv], ?_, ?_, ho4, upd_same, ?_, a'⟩
                    · exact ((l3.trans l4).trans l5).poke hD (Kp.lst hd4)
                    · exact r4.poke (Kp.lst hd4) ho4
                    · exact DVs.kp (Kp.lst hd4) _ _ (dq4.append (DVs.cons q4 DVs.nil))
                  · rw [if_neg hl] at a'; exact a'.elim
          | _ => exact a'.elim
        | _ => rw [hg] at a'; exact a'.elim
    · exact a'.elim
end
theorem lcGo_ne {gg : FG} {tt : FT} {te : FE} {ρ : En} : ∀ {ds acc : List D} {M : Mem} {x : Exn} {M' : Mem}, lcGo gg tt te ρ ds acc M = .ex x M' → False
  | [], acc, M, x, M', h => by cases h
  | d :: ds, acc, M, x, M', h => by
    unfold lcGo at h
    split at h
    · split at h
      · split at h
        · split at h
          · exact lcGo_ne h
          · cases h
        · cases h
      · exact lcGo_ne h
      · cases h
    · cases h
theorem lcGoL_ne {gg : FG} {tt : FT} {te : FE} {ρ : En} {n : Nat} : ∀ {m i : Nat} {acc : List D} {M : Mem} {x : Exn} {M' : Mem}, lcGoL gg tt te ρ n m i acc M = .ex x M' → False
  | 0, i, acc, M, x, M', h => by cases h
  | m + 1, i, acc, M, x, M', h => by
    unfold lcGoL at h
    split at h
    · split at h
      · cases h
      · split at h
        · split at h
          · split at h
            · split at h
              · exact lcGoL_ne h
              · cases h
            · cases h
          · exact lcGoL_ne h
          · cases h
        · cases h
    · cases h
section
variable {X : Cx} {W : WX} {elt tg iter : Expr} {ifs : List Expr} {scope : Scope} {own : List (Str × Nat)} {pos : Pos} {fw : En → Mem → R Wk} {gg : FG} {tt : FT} {te : FE} {g : TG}
theorem lc_full {σ : L2.St} {H : Hp} {Q : VK} {fin : List D → Mem → R D} (hok : OwnG X.K g gg (own.map (·.2))) (h : tM X.K (DV X.K) W (fun ρ M => (fw ρ M).bind fun w M1 => (lcW gg tt te (wipeE ρ (own.map (·.2))) w M1).bind fin) σ H Q)
    (hfin : ∀ (μ : Nat → Addr) (M : Mem) (H1 : Hp) (dl : Addr) (acc : List D) (M' : Mem) (μ' : Nat → Addr) (H' : Hp) (accV : List V) (E : W0), H1 dl = none → Ans X.K (DV X.K) E μ M.length H1 (fin acc M') Q → Lift μ M.length H1 μ' M'.length H' → Rel X.K μ' M' H' → (∀ n, n < M'.length → μ' n ≠ dl) → H' dl = some (.lst accV) → DVs X.K μ' M'.length H' acc accV → Q' (.ref dl) H') :
    tLc (tM X.K (WkR X.K) W fw) g (tM X.K BV WF tt) (tM X.K (DV X.K) WF te) (own.map (·.2)) σ H Q' := by
  refine tM.mono (fun J H1 ⟨μ, M, ρ, w, r, e, q, a⟩ => ?_) (tM.seq (rel := WkR X.K) h)
  intro dl hdl
  cases w with
  | obj n =>
    refine lc_turnsL (fuel := 100000) (Q := Q' (.ref dl)) hok hdl r (e.wipe _) q ?_
    have a : Ans X.K (DV X.K) (fun c d H' => W c d σ H') μ M.length H1 ((lcGoL gg tt te (wipeE ρ (own.map (·.2))) n 100000 0 [] M).bind fin) Q := a
    unfold AnsD
    cases hr : lcGoL gg tt te (wipeE ρ (own.map (·.2))) n 100000 0 [] M with
    | no => rw [hr] at a; exact a
    | ex x M2 => exact (lcGoL_ne hr).elim
    | ok acc M2 =>
      rw [hr] at a
      exact fun μ' H' accV l r' ho hd dq => hfin μ M H1 dl acc M2 μ' H' accV _ hdl a l r' ho hd dq
  | items ds =>
    refine lc_turns (Q := Q' (.ref dl)) hok hdl r (e.wipe _) q ?_
    have a : Ans X.K (DV X.K) (fun c d H' => W c d σ H') μ M.length H1 ((lcGo gg tt te (wipeE ρ (own.map (·.2))) ds [] M).bind fin) Q := a
    unfold AnsD
    cases hr : lcGo gg tt te (wipeE ρ (own.map (·.2))) ds [] M with
    | no => rw [hr] at a; exact a
    | ex x M2 => exact (lcGo_ne hr).elim
    | ok acc M2 =>
      rw [hr] at a
      exact fun μ' H' accV l r' ho hd dq => hfin μ M H1 dl acc M2 μ' H' accV _ hdl a l r' ho hd dq
theorem me_lcV (hc : X.calm = true) (hN : X.N.Nodup) (ok : BlkOk X.N X.env.scope scope own) (hok : OwnG X.K g gg (own.map (·.2))) (hi : MI X W tg iter fw)
    (hg : ∀ (s : Shared) (H : Hp) (C : Addr) (cl : List (Str × Addr)) (fp : List Addr), PG (X.blk s H scope (compEnvC scope cl C X.env) fp) tg g) (ht : ∀ (s : Shared) (H : Hp) (C : Addr) (cl : List (Str × Addr)) (fp : List Addr), MTs (X.blk s H scope (compEnvC scope cl C X.env) fp) WF ifs tt)
    (he : ∀ (s : Shared) (H : Hp) (C : Addr) (cl : List (Str × Addr)) (fp : List Addr), ME (X.blk s H scope (compEnvC scope cl C X.env) fp) WF elt te) (hs : ∀ x, foldedSetIterable iter X.env x = pure x := by intro _; rfl) :
    ME X W (.ListComp elt [⟨tg, iter, ifs, 0⟩] scope pos) (eLcV (own.map (·.2)) fw gg tt te) := by
  refine PE.weak (PE.lock (pe_lc (tt := tM X.K BV WF tt) (te := tM X.K (DV X.K) WF te) hc hN hi ok hg ht he hs)) fun σ H Q h => ?_
  refine lc_full (Q := Q) hok h fun μ M H1 dl acc M' μ' H' accV E hdl a l r' ho hd dq => ⟨dl, accV, rfl, hd, fun o => ?_⟩
  refine a μ' _ _ (l.poke hdl (Kp.lst hd)) (r'.poke (Kp.lst hd) ho) ?_
  unfold DV
  exact ⟨dl, accV, rfl, .inl ⟨o, upd_same⟩, DVs.kp (Kp.lst hd) _ _ dq⟩
theorem me_lcN (hc : X.calm = true) (hN : X.N.Nodup) (ok : BlkOk X.N X.env.scope scope own) (hok : OwnG X.K g gg (own.map (·.2))) (hi : MI X W tg iter fw)
    (hg : ∀ (s : Shared) (H : Hp) (C : Addr) (cl : List (Str × Addr)) (fp : List Addr), PG (X.blk s H scope (compEnvC scope cl C X.env) fp) tg g) (ht : ∀ (s : Shared) (H : Hp) (C : Addr) (cl : List (Str × Addr)) (fp : List Addr), MTs (X.blk s H scope (compEnvC scope cl C X.env) fp) WF ifs tt)
    (he : ∀ (s : Shared) (H : Hp) (C : Addr) (cl : List (Str × Addr)) (fp : List Addr), ME (X.blk s H scope (compEnvC scope cl C X.env) fp) WF elt te) (hs : ∀ x, foldedSetIterable iter X.env x = pure x := by intro _; rfl) :
    ME X W (.ListComp elt [⟨tg, iter, ifs, 0⟩] scope pos) (eLcN (own.map (·.2)) fw gg tt te) := by
  refine PE.weak (pe_lc (tt := tM X.K BV WF tt) (te := tM X.K (DV X.K) WF te) hc hN hi ok hg ht he hs) fun σ H Q h => ?_
  refine lc_full (Q := Q) hok h fun μ M H1 dl acc M' μ' H' accV E hdl a l r' ho hd dq => ?_
  refine a (ext μ' M'.length dl) H' _ (l.adopt hdl) (r'.adopt ho hd dq) ?_
  unfold DV
  exact ⟨by simp, congrArg V.ref (if_pos rfl : ext μ' M'.length dl M'.length = dl).symm⟩
end
end Br
end
section
namespace Br
open PySem PySem.Spec PyProof.Rows L2
/-! ### isinstance -/
def tyD (M : Mem) : D → Option String
  | .non => some "NoneType"
  | .bl _ => some "bool"
  | .int _ => some "int"
  | .str _ => some "str"
  | .tup _ => some "tuple"
  | .lst _ => some "list"
  | .ref n => (match M[n]? with
    | some (.lst _) => some "list"
    | some (.dic _) => some "dict"
    | _ => none)
  | _ => none
def isiB (t T : String) : Bool := decide (t = T) || (decide (t = "bool") && decide (T = "int"))
def tyNames : List String := ["bool", "int", "str", "tuple", "list", "dict"]
def gIsi : FL := fun ds M => match ds with
  | [d, .ty T] => (match tyD M d with
    | some t => if T ∈ tyNames then .ok (.bl (isiB t T)) M else .no
    | none => .no)
  | _ => .no
theorem kit_ty (K : PySem.W.Frag) : ∀ t ∈ "NoneType" :: tyNames, ∀ T ∈ tyNames, PySem.W.kitOne K (.type t) (.type T) = some (isiB t T) := by
  intro t ht T hT
  unfold tyNames at ht hT
  simp only [List.mem_cons, List.not_mem_nil, or_false] at ht hT
  rcases ht with rfl | rfl | rfl | rfl | rfl | rfl | rfl <;> rcases hT with rfl | rfl | rfl | rfl | rfl | rfl <;> rfl
theorem tyD_ok {K : PySem.W.Frag} {μ : Nat → Addr} {M : Mem} {H : Hp} {d : D} {v : V} {t : String} (r : Rel K μ M H) (q : DV K μ M.length H d v) (h : tyD M d = some t) : TyX K H v (.type t) ∧ t ∈ "NoneType" :: tyNames := by
  cases d with
  | non => cases h; rw [non_dv q]; exact ⟨.base .non, by decide⟩
  | bl b => cases h; rw [bl_dv q]; exact ⟨.base (.bl _), by decide⟩
  | int b => cases h; rw [int_dv q]; exact ⟨.base (.int _), by decide⟩
  | str b => cases h; rw [str_dv q]; exact ⟨.base (.str _), by decide⟩
  | tup ds =>
    cases h
    obtain ⟨a, xs, e, s, _⟩ := tup_dv q
    rw [e]
    refine ⟨?_, by decide⟩
    rcases s with (s | ⟨o, s⟩) | ⟨o, its, n, h1, h2, h3, _⟩
    · exact .base (.tup s)
    · exact .fTuple s
    · exact .kTuple h1 h2
  | lst ds =>
    cases h
    obtain ⟨a, xs, e, s, _⟩ := lst_dv q
    rw [e]
    refine ⟨?_, by decide⟩
    rcases s with ⟨o, s⟩ | ⟨o, its, n, h1, h2, h3, _⟩
    · exact .base (.frz s)
    · exact .kList h1 h2
  | ref n =>
    obtain ⟨hn, e⟩ := ref_dv q
    rw [e]
    unfold tyD at h
    dsimp only at h
    split at h
    · rename_i hx
      cases h
      obtain ⟨xs, h1, _⟩ := r.obj n _ hx
      exact ⟨.base (.lst h1), by decide⟩
    · rename_i hx
      cases h
      obtain ⟨xs, h1, _⟩ := r.obj n _ hx
      exact ⟨.base (.dK h1), by decide⟩
    · cases h
  | gl x => cases h
  | ty x => cases h
  | ptp x => cases h
  | exc x y z => cases h
  | adr x y => cases h
theorem ty_dv {K : PySem.W.Frag} {μ : Nat → Addr} {N : Nat} {H : Hp} {i : String} {v : V} (h : DV K μ N H (.ty i) v) : v = .ty i := by unfold DV at h; exact h
section
variable {X : Cx}
theorem cm_isi : CallM X (.builtin "isinstance") gIsi := by
  intro W pins s σ H xs us Q I rv ⟨μ, M, as, r, q, an⟩
  unfold gIsi at an
  split at an
  · rename_i d T
    split at an
    · rename_i t ht
      split at an
      · rename_i hT
        obtain ⟨v, r', e, q1, q2⟩ := q.inv_cons
        obtain ⟨v2, r2, e2, q3, q4⟩ := q2.inv_cons
        rw [e, e2, q4.inv_nil, ty_dv q3] at rv
        obtain ⟨h1, h2⟩ := tyD_ok r q1 ht
        exact call_isi pins s σ H _ us Q I rv ⟨v, .ty T, _, _, _, rfl, .ty T, h1, kit_ty X.K t h2 T hT, ans_pure r dv_bl an⟩
      · exact an.elim
    · exact an.elim
  · exact an.elim
/-! ### all, any of booleans -/
def blsOf : List D → Option (List Bool)
  | [] => some []
  | .bl b :: r => (blsOf r).map (b :: ·)
  | _ => none
theorem blsOf_eq : ∀ {ds : List D} {bs : List Bool}, blsOf ds = some bs → ds = bs.map D.bl
  | [], bs, h => by cases h; rfl
  | .bl b :: r, bs, h => by
    unfold blsOf at h
    cases e : blsOf r with
    | none => rw [e] at h; cases h
    | some cs => rw [e] at h; cases h; rw [blsOf_eq e]; rfl
  | .non :: r, bs, h => by cases h
  | .int _ :: r, bs, h => by cases h
  | .str _ :: r, bs, h => by cases h
  | .tup _ :: r, bs, h => by cases h
  | .lst _ :: r, bs, h => by cases h
  | .ref _ :: r, bs, h => by cases h
  | .gl _ :: r, bs, h => by cases h
  | .ty _ :: r, bs, h => by cases h
  | .ptp _ :: r, bs, h => by cases h
  | .exc _ _ _ :: r, bs, h => by cases h
  | .adr _ _ :: r, bs, h => by cases h
def gAllB (f : List Bool → Bool) : FL := fun ds M => match ds with
  | [d] => (match (seqL M d).bind blsOf with
    | some bs => .ok (.bl (f bs)) M
    | none => .no)
  | _ => .no
def gAll : FL := gAllB fun bs => bs.all id
def gAny : FL := gAllB fun bs => bs.any id
theorem allB_ok {K : PySem.W.Frag} {μ : Nat → Addr} {M : Mem} {H : Hp} {d : D} {v : V} {bs : List Bool} (r : Rel K μ M H) (q : DV K μ M.length H d v) (h : (seqL M d).bind blsOf = some bs) : ∃ a, v = .ref a ∧ SqL K H a (bs.map V.bl) := by
  cases e : seqL M d with
  | none => rw [e] at h; cases h
  | some ds =>
    rw [e] at h
    obtain ⟨a, xs, ev, s, dq⟩ := seqL_ok r q e
    have e2 := blsOf_eq (show blsOf ds = some bs from h)
    subst e2
    exact ⟨a, ev, by rw [← dq.bls]; exact s⟩
theorem cm_all (hc : X.calm = true) : CallM X (.builtin "all") gAll := by
  intro W pins s σ H xs us Q I rv ⟨μ, M, as, r, q, an⟩
  unfold gAll gAllB at an
  split at an
  · split at an
    · rename_i bs hb
      obtain ⟨v, r', e, q1, q2⟩ := q.inv_cons
      obtain ⟨a, ev, sq⟩ := allB_ok r q1 hb
      rw [e, q2.inv_nil, ev] at rv
      exact cr_all hc pins s σ H _ us Q I rv ⟨a, bs, rfl, sq, ans_pure r dv_bl an⟩
    · exact an.elim
  · exact an.elim
theorem cm_any (hc : X.calm = true) : CallM X (.builtin "any") gAny := by
  intro W pins s σ H xs us Q I rv ⟨μ, M, as, r, q, an⟩
  unfold gAny gAllB at an
  split at an
  · split at an
    · rename_i bs hb
      obtain ⟨v, r', e, q1, q2⟩ := q.inv_cons
      obtain ⟨a, ev, sq⟩ := allB_ok r q1 hb
      rw [e, q2.inv_nil, ev] at rv
      exact cr_any hc pins s σ H _ us Q I rv ⟨a, bs, rfl, sq, ans_pure r dv_bl an⟩
    · exact an.elim
  · exact an.elim
/-! ### str(int), list(..), tuple(..) -/
def gStr : FL := fun ds M => match ds with
  | [.int i] => if i.natAbs.log2 < 1920 then .ok (.str (toString i : String)) M else .no
  | [.str z] => .ok (.str z) M
  | _ => .no
def gTupOf : FL := fun ds M => match ds with
  | [.tup xs] => .ok (.tup xs) M
  | [d] => (match seqL M d with
    | some xs => .ok (.tup xs) M
    | none => .no)
  | _ => .no
theorem cm_tupOf : CallM X (.type "tuple") gTupOf := by
  intro W pins s σ H xs us Q I rv ⟨μ, M, as, r, q, an⟩
  unfold gTupOf at an
  split at an
  · rename_i ds
    obtain ⟨v, r', e, q1, q2⟩ := q.inv_cons
    obtain ⟨a, xs, ev, sq, dq⟩ := tup_dv q1
    rw [e, q2.inv_nil, ev] at rv
    exact call_tuple_of pins s σ H _ us Q I rv ⟨a, xs, rfl, .inr ⟨sq, ans_pure r (dv_tup sq dq) an⟩⟩
  · split at an
    · rename_i ds hd
      obtain ⟨v, r', e, q1, q2⟩ := q.inv_cons
      obtain ⟨a, xs, ev, sq, dq⟩ := seqL_ok r q1 hd
      rw [e, q2.inv_nil, ev] at rv
      refine call_tuple_of pins s σ H _ us Q I rv ⟨a, xs, rfl, .inl ⟨sq, fun l hl => ?_⟩⟩
      exact an μ _ _ (Lift.fresh hl) (r.fresh hl) (dv_tup (SqT.of upd_same) (dq.lift (Lift.fresh hl)))
    · exact an.elim
  · exact an.elim
/-- list(x) as a list of the memory -/
def gLstOf : FL := fun ds M => match ds with
  | [d] => (match seqA M d with
    | some xs => .ok (.ref M.length) (M ++ [.lst xs])
    | none => .no)
  | _ => .no
theorem cm_lstOf : CallM X (.type "list") gLstOf := by
  intro W pins s σ H xs us Q I rv ⟨μ, M, as, r, q, an⟩
  unfold gLstOf at an
  split at an
  · split at an
    · rename_i ds hd
      obtain ⟨v, r', e, q1, q2⟩ := q.inv_cons
      obtain ⟨a, xs, ev, sq, dq⟩ := seqA_ok r q1 hd
      rw [e, q2.inv_nil, ev] at rv
      exact call_list_of pins s σ H _ us Q I rv ⟨a, xs, rfl, sq, fun l hl => ans_new r dq an l hl⟩
    · exact an.elim
  · exact an.elim
/-! ### is None -/
def gIsN (b : Bool) : F2 := fun x y M => match y with
  | .non => (match x with
    | .non => .ok (.bl b) M
    | _ => .ok (.bl (!b)) M)
  | _ => .no
theorem om_isN : OpM X (compareOp .Is) (gIsN true) := by
  intro W pins s σ H x y v u Q I rx ry ⟨μ, M, a, b, r, qa, qb, an⟩
  unfold gIsN at an
  split at an
  · have hy := non_dv qb
    subst hy
    refine op_isN pins s σ H x _ v u Q I rx ry ⟨rfl, ?_⟩
    split at an
    · rw [non_dv qa]; exact ans_pure r dv_bl an
    · rename_i hne
      have : x ≠ .non := fun e => by
        subst e
        cases a with
        | non => exact hne rfl
        | bl b => cases bl_dv qa
        | int b => cases int_dv qa
        | str b => cases str_dv qa
        | ty b => cases ty_dv qa
        | ptp b => unfold DV at qa; obtain ⟨_, _, _, e, _⟩ := qa; cases e
        | exc b c d => unfold DV at qa; obtain ⟨_, _, _, _, _, e, _⟩ := qa; cases e
        | adr b c => unfold DV at qa; cases qa.1
        | tup ds => obtain ⟨_, _, e, _⟩ := tup_dv qa; cases e
        | lst ds => obtain ⟨_, _, e, _⟩ := lst_dv qa; cases e
        | ref n => cases (ref_dv qa).2
        | gl x => unfold DV at qa; cases qa
      rw [decide_eq_false this]
      exact ans_pure r dv_bl an
  · exact an.elim
/-! ### in -/
def inD (M : Mem) (x y : D) : Option Bool := match x, y with
  | .str i, .str j => some (!(Builtin.Str.occurrences j i 0 j.length 1).isEmpty)
  | x, y => match toPy M x, toPy M y with
    | some p, some (.list ps) => if SeqAt.shaped p && SeqAt.shaped (.list ps) then some (ps.any fun z => PyData.eqv z p) else none
    | some p, some (.tuple ps) => if SeqAt.shaped p && SeqAt.shaped (.tuple ps) then some (ps.any fun z => PyData.eqv z p) else none
    | _, _ => none
def gIn (neg : Bool) : F2 := fun x y M => match inD M x y with
  | some b => .ok (.bl (if neg then !b else b)) M
  | none => .no
theorem om_in (hu : X.A.units + 65 < cLine) : OpM X (compareOp .In) (gIn false) := by
  intro W pins s σ H x y v u Q I rx ry ⟨μ, M, a, b, r, qa, qb, an⟩
  unfold gIn at an
  split at an
  · rename_i k hk
    unfold inD at hk
    split at hk
    · cases hk
      rw [str_dv qa] at rx; rw [str_dv qb] at ry
      exact op_in_str pins s σ H _ _ v u Q I rx ry ⟨_, _, rfl, rfl, ans_pure r dv_bl an⟩
    · split at hk
      · rename_i p ps hp hps
        split at hk
        · rename_i hs
          cases hk
          simp only [Bool.and_eq_true] at hs
          exact op_inD hu pins s σ H x y v u Q I rx ry ⟨p, ps, toPy_ok r qa hp, toPy_ok r qb hps, hs.1, hs.2, ans_pure r dv_bl an⟩
        · cases hk
      · rename_i p ps hp hps
        split at hk
        · rename_i hs
          cases hk
          simp only [Bool.and_eq_true] at hs
          obtain ⟨as, r1⟩ := Dp.reads I p x v (toPy_ok r qa hp) rx
          obtain ⟨bs, r2⟩ := Dp.reads I (.tuple ps) y u (toPy_ok r qb hps) ry
          exact SeqAt.in_tuple_reads r2 r1 (SeqAt.canLay_of_shaped hs.2) (SeqAt.canLay_of_shaped hs.1) (room_in_shaped hs.1 hu) ⟨.bl _, H, I, rfl, ans_pure r dv_bl an⟩
        · cases hk
      · cases hk
  · exact an.elim
theorem om_notIn (hu : X.A.units + 65 < cLine) : OpM X (compareOp .NotIn) (gIn true) := by
  intro W pins s σ H x y v u Q I rx ry ⟨μ, M, a, b, r, qa, qb, an⟩
  unfold gIn at an
  split at an
  · rename_i k hk
    unfold inD at hk
    split at hk
    · cases hk
      rw [str_dv qa] at rx; rw [str_dv qb] at ry
      exact op_notin_str pins s σ H _ _ v u Q I rx ry ⟨_, _, rfl, rfl, ans_pure r dv_bl an⟩
    · split at hk
      · rename_i p ps hp hps
        split at hk
        · rename_i hs
          cases hk
          simp only [Bool.and_eq_true] at hs
          exact op_notInD hu pins s σ H x y v u Q I rx ry ⟨p, ps, toPy_ok r qa hp, toPy_ok r qb hps, hs.1, hs.2, ans_pure r dv_bl an⟩
        · cases hk
      · rename_i p ps hp hps
        split at hk
        · rename_i hs
          cases hk
          simp only [Bool.and_eq_true] at hs
          obtain ⟨as, r1⟩ := Dp.reads I p x v (toPy_ok r qa hp) rx
          obtain ⟨bs, r2⟩ := Dp.reads I (.tuple ps) y u (toPy_ok r qb hps) ry
          exact SeqAt.notIn_tuple_reads r2 r1 (SeqAt.canLay_of_shaped hs.2) (SeqAt.canLay_of_shaped hs.1) (room_in_shaped hs.1 hu) ⟨.bl _, H, I, rfl, ans_pure r dv_bl an⟩
        · cases hk
      · cases hk
  · exact an.elim
end
theorem hu65 {A : Around} {k : Nat} (hr : Room k A) : A.units + 65 < cLine := by have := hr.un; omega
/-! ### a op b op c -/
def eCh (g g' : F2) (fa fb fc : FE) : FE := fun ρ M => (fa ρ M).bind fun x M1 => (fb ρ M1).bind fun y M2 => (g x y M2).bind fun z M3 => match z with
  | .bl true => (fc ρ M3).bind fun w M4 => g' y w M4
  | .bl false => .ok (.bl false) M3
  | _ => .no
section
variable {X : Cx} {W : WX} {a b c : Expr} {fa fb fc : FE} {pos : Pos}
theorem ch_ok {g g' : F2} {σ : L2.St} {H : Hp} {Q : VK} (h : tM X.K (DV X.K) W (eCh g g' fa fb fc) σ H Q) :
    tChain (r2 X.K (fun c d H' => W c d σ H') g) (r2 X.K (fun c d H' => W c d σ H') g') (tM X.K (DV X.K) W fa) (tM X.K (DV X.K) W fb) (tM X.K (DV X.K) W fc) σ H Q := by
  refine tM.mono (fun v H1 ⟨μ, M, ρ, d, r, e, q, a1⟩ => ?_) (tM.seq (rel := DV X.K) h)
  have a2 := Ans.bind (rel := DV X.K) a1
  refine ⟨μ, M, ρ, r, e, a2.mono (fun u H2 ⟨μ1, M1, d1, l1, r1, q1, a3⟩ => ⟨μ1, M1, d, d1, r1, q.lift l1, q1, ?_⟩) fun _ _ _ z => z⟩
  have a4 := Ans.bind (rel := DV X.K) a3
  refine a4.mono (fun z H3 ⟨μ3, M3, d3, l3, r3, q3, a5⟩ => ?_) fun _ _ _ z => z
  cases d3 with
  | bl k =>
    refine ⟨k, by unfold DV at q3; exact q3, ?_⟩
    cases k with
    | false => rw [if_neg (by decide)]; exact a5 μ3 H3 _ (Lift.refl ..) r3 dv_bl
    | true =>
      rw [if_pos rfl]
      have a6 := Ans.bind (rel := DV X.K) a5
      exact ⟨μ3, M3, ρ, r3, (e.lift l1).lift l3, a6.mono (fun w H4 ⟨μ4, M4, d4, l4, r4, q4, a7⟩ => ⟨μ4, M4, d1, d4, r4, (q1.lift l3).lift l4, q4, a7⟩) fun _ _ _ z => z⟩
  | _ => exact a5.elim
theorem me_ch {op op' : CmpOp} {g g' : F2} (ho : OpM X (compareOp op) g) (ho' : OpM X (compareOp op') g') (ha : ME X W a fa) (hb : ME X W b fb) (hc : ME X W c fc) (hm : lastMarks [op, op'] [b, c] = false := by with_unfolding_all rfl) :
    ME X W (.Compare a [op, op'] [b, c] pos) (eCh g g' fa fb fc) := by
  refine ⟨fun pins s σ H Q I h => ?_⟩
  exact (pe_chain (ho (fun c d H' => W c d σ H')) (ho' (fun c d H' => W c d σ H')) ha hb hc hm).run pins s σ H Q I (ch_ok h)
theorem mt_ch {op op' : CmpOp} {g g' : F2} (ho : OpM X (compareOp op) g) (ho' : OpM X (compareOp op') g') (ha : ME X W a fa) (hb : ME X W b fb) (hc : ME X W c fc) (hm : lastMarks [op, op'] [b, c] = false := by with_unfolding_all rfl) :
    MT X W (.Compare a [op, op'] [b, c] pos) (Br.tC (eCh g g' fa fb fc)) := by
  refine ⟨fun pins s σ H Q I h => ?_⟩
  refine (pt_chain (ho (fun c d H' => W c d σ H')) (ho' (fun c d H' => W c d σ H')) ha hb hc hm).run pins s σ H Q I ?_
  unfold tTest
  have h2 : tM X.K (DV X.K) W (eCh g g' fa fb fc) σ H fun x H' => ∃ k, x = .bl k ∧ Q k H' := by
    unfold Br.tC at h
    refine tM.mono (fun v H1 ⟨μ, M, ρ, d, r, e, q, a1⟩ => ?_) (tM.seq (rel := DV X.K) h)
    cases d with
    | bl k => exact ⟨k, bl_dv q, a1 μ H1 k (Lift.refl ..) r rfl⟩
    | _ => exact a1.elim
  exact ch_ok h2
/-! ### slices -/
abbrev FO := En → Mem → R (Option Int)
def OVr (μ : Nat → Addr) (N : Nat) (H : Hp) (a b : Option Int) : Prop := a = b
def MO' (X : Cx) (W : WX) (e : Option Expr) (f : FO) : Prop := PO X e (tM X.K OVr W f)
def oN : FO := fun _ M => .ok none M
def oS (f : FE) : FO := fun ρ M => (f ρ M).bind fun d M1 => match d with
  | .int i => .ok (some i) M1
  | _ => .no
theorem mo_none : MO' X W none oN := ⟨fun pins s σ H Q I ⟨μ, M, ρ, r, e, q⟩ => po_none.run pins s σ H Q I (q μ H none (Lift.refl ..) r rfl)⟩
theorem mo_some (h : ME X W a fa) : MO' X W (some a) (oS fa) := by
  refine ⟨fun pins s σ H Q I hw => (po_some h).run pins s σ H Q I ?_⟩
  refine tM.mono (fun v H1 ⟨μ, M, ρ, d, r, e, q, a1⟩ => ?_) (tM.seq (rel := DV X.K) hw)
  cases d with
  | int k => exact ⟨k, int_dv q, a1 μ H1 _ (Lift.refl ..) r rfl⟩
  | _ => exact a1.elim
def cutD (xs : List D) (lo hi : Option Int) : List D := (xs.drop (HT.sIx xs.length 0 lo)).take (HT.sIx xs.length xs.length hi - HT.sIx xs.length 0 lo)
def gSl (x : D) (lo hi : Option Int) (M : Mem) : R D := match x with
  | .tup xs => .ok (.tup (cutD xs lo hi)) M
  | .str z => if z.length ≤ sizeLine then .ok (.str (cutS z lo hi)) M else .no
  | x => match seqL M x with
    | some xs => .ok (.ref M.length) (M ++ [.lst (cutD xs lo hi)])
    | none => .no
theorem cut_dv {K : PySem.W.Frag} {μ : Nat → Addr} {N : Nat} {H : Hp} {ds : List D} {vs : List V} (q : DVs K μ N H ds vs) (lo hi : Option Int) : DVs K μ N H (cutD ds lo hi) (cutV vs lo hi) := by
  unfold cutD cutV
  rw [q.length]
  exact (q.drop _).take _
def rSlM (K : PySem.W.Frag) (W : W0) : V → Option Int → Option Int → Hp → VK → Prop := fun x lo hi H Q => ∃ μ M d, Rel K μ M H ∧ DV K μ M.length H d x ∧ Ans K (DV K) W μ M.length H (gSl d lo hi M) Q
theorem sl_any (W : W0) : SlR X (rSlM X.K W) := by
  intro pins s σ H x v vl vu lo hi sl Q I rx hs pl pu ⟨μ, M, d, r, q, an⟩
  unfold gSl at an
  split at an
  · rename_i ds
    obtain ⟨a, xs, ev, sq, dq⟩ := tup_dv q
    refine sl_tupA pins s σ H x v vl vu lo hi sl Q I rx hs pl pu ⟨a, xs, ev, sq, fun hw => ?_, fun hw p hp => ?_⟩
    · refine ans_pure r (dv_tup sq ?_) an
      have : cutD ds lo hi = ds := by
        unfold cutD
        rw [← dq.length, hw.1, hw.2, List.drop_zero, Nat.sub_zero, dq.length, List.take_length]
      rw [this]; exact dq
    · exact an μ _ _ (Lift.fresh hp) (r.fresh hp) (dv_tup (SqT.of upd_same) ((cut_dv dq lo hi).lift (Lift.fresh hp)))
  · split at an
    · rename_i z hz
      exact sl_str pins s σ H x v vl vu lo hi sl Q I rx hs pl pu ⟨_, str_dv q, hz, ans_pure r dv_str an⟩
    · exact an.elim
  · split at an
    · rename_i ds hd
      obtain ⟨a, xs, ev, sq, dq⟩ := seqL_ok r q hd
      exact sl_list pins s σ H x v vl vu lo hi sl Q I rx hs pl pu ⟨a, xs, ev, sq, fun p hp => ans_new r (cut_dv dq lo hi) an p hp⟩
    · exact an.elim
def eSl (f : FE) (lo hi : FO) : FE := fun ρ M => (f ρ M).bind fun x M1 => (lo ρ M1).bind fun l M2 => (hi ρ M2).bind fun h M3 => gSl x l h M3
theorem me_sl {lo hi : Option Expr} {fl fh : FO} {p2 : Pos} (he : ME X W a fa) (hl : MO' X W lo fl) (hh : MO' X W hi fh) : ME X W (.Subscript a (.Slice lo hi none p2) pos) (eSl fa fl fh) := by
  refine ⟨fun pins s σ H Q I h => (pe_slice (sl_any (fun c d H' => W c d σ H')) he hl hh).run pins s σ H Q I ?_⟩
  refine tM.mono (fun v H1 ⟨μ, M, ρ, d, r, e, q, a1⟩ => ?_) (tM.seq (rel := DV X.K) h)
  have a2 := Ans.bind (rel := OVr) a1
  refine ⟨μ, M, ρ, r, e, a2.mono (fun l H2 ⟨μ1, M1, d1, l1, r1, q1, a3⟩ => ?_) fun _ _ _ z => z⟩
  have e1 : d1 = l := q1
  subst e1
  have a4 := Ans.bind (rel := OVr) a3
  refine ⟨μ1, M1, ρ, r1, e.lift l1, a4.mono (fun l H3 ⟨μ2, M2, d2, l2, r2, q2, a5⟩ => ?_) fun _ _ _ z => z⟩
  have e2 : d2 = l := q2
  subst e2
  exact ⟨μ2, M2, d, r2, (q.lift l1).lift l2, a5⟩
end
end Br
end
section
namespace Br
open PySem PySem.Spec PyProof.Rows L2
section
variable {X : Cx}
theorem cm_str : CallM X (.type "str") gStr := by
  intro W pins s σ H xs us Q I rv ⟨μ, M, as, r, q, an⟩
  unfold gStr at an
  split at an
  · split at an
    · rename_i i hi
      obtain ⟨v, r', e, q1, q2⟩ := q.inv_cons
      rw [e, q2.inv_nil, int_dv q1] at rv
      exact call_str_int pins s σ H _ us Q I rv ⟨i, rfl, hi, ans_pure r dv_str an⟩
    · exact an.elim
  · obtain ⟨v, r', e, q1, q2⟩ := q.inv_cons
    rw [e, q2.inv_nil, str_dv q1] at rv
    exact SkE.call_str_str pins s σ H _ us Q I rv ⟨_, rfl, ans_pure r dv_str an⟩
  · exact an.elim
end
/-! ### match over constants -/
structure PCs (X : Cx) (cs : List MatchCase) (t : V → TS) : Prop where
  run : ∀ (pins : List (Addr × Obj)) (s : Shared) (σ : L2.St) (H : Hp) (D : Ends) (v : V) (u : Value) (b : Bool), Inv X pins σ H s → RelV v u → t v D σ H → wpAny (model X.prog X.w) X.A (matchCases cs X.env u b) (SP X pins D) X.xe s
def MC (X : Cx) (W : WX) (cs : List MatchCase) (g : D → FStm) : Prop := PCs X cs (fun v D σ H => ∃ μ M ρ d, Rel X.K μ M H ∧ EV X.K μ M.length H ρ σ ∧ DV X.K μ M.length H d v ∧ AnsS X.K W μ M.length H (g d ρ M) D)
def cN : D → FStm := fun _ ρ M => .go .nx ρ M
def cV (f : FE) (g : FStm) (r : D → FStm) : D → FStm := fun d ρ M => SR.of (f ρ M) ρ fun y M1 => match eqD M1 d y with
  | some true => g ρ M1
  | some false => r d ρ M1
  | none => .no
def cA (g : FStm) : D → FStm := fun _ => g
def sMatch (f : FE) (g : D → FStm) : FStm := fun ρ M => SR.of (f ρ M) ρ fun d M1 => g d ρ M1
section
variable {X : Cx} {W : WX} {e : Expr} {body : List Stmt} {rest : List MatchCase} {f : FE} {g : FStm} {r : D → FStm} {pos : Pos}
theorem mc_nil : MC X W [] cN := ⟨fun pins s σ H D v u b I rv ⟨μ, M, ρ, d, r, e, q, a⟩ => wpAny_matchCases_nil ⟨σ, H, I, a μ H σ (Lift.refl ..) r e⟩⟩
theorem mc_any {p : Pos} (hb : MSs X W body g) : MC X W (⟨.MatchAs none none p, none, body⟩ :: rest) (cA g) := by
  refine ⟨fun pins s σ H D v u b I rv ⟨μ, M, ρ, d, r, e, q, a⟩ => ?_⟩
  refine wpAny_matchCases_cons (wpAny_matchPattern_Capture ?_)
  show wpAny _ _ (assignInOrder [] []) _ _ _
  exact wpAny_assignInOrder_none (hb.run pins s σ H D I ⟨μ, M, ρ, r, e, a⟩)
theorem mc_val (hu : X.A.units + 64 < cLine) (he : ME X W e f) (hb : MSs X W body g) (hr : MC X W rest r) : MC X W (⟨.MatchValue e pos, none, body⟩ :: rest) (cV f g r) := by
  refine ⟨fun pins s σ H D v u b I rv ⟨μ, M, ρ, d, rl, ev, q, a⟩ => ?_⟩
  refine wpAny_matchCases_cons (wpAny_matchPattern_Value ?_)
  unfold cV at a
  have h0 : tM X.K (DV X.K) W f σ H (fun v1 H1 => ∃ μ1 M1 d1, Rel X.K μ1 M1 H1 ∧ EV X.K μ1 M1.length H1 ρ σ ∧ DV X.K μ1 M1.length H1 d v ∧ DV X.K μ1 M1.length H1 d1 v1 ∧ AnsS X.K W μ1 M1.length H1 (match eqD M1 d d1 with
      | some true => g ρ M1
      | some false => r d ρ M1
      | none => .no) D) := by
    refine ⟨μ, M, ρ, rl, ev, ?_⟩
    cases hf : f ρ M with
    | no => rw [hf] at a; exact a.elim
    | ex x M1 => rw [hf] at a; exact fun μ' H' c dd l r' x' => a μ' H' σ c dd l r' (ev.lift l) x'
    | ok d1 M1 =>
      rw [hf] at a
      exact fun μ1 H1 v1 l r1 q1 => ⟨μ1, M1, d1, r1, ev.lift l, q.lift l, q1, AnsS.rebase l a⟩
  refine thn (he.run pins s σ H _ I h0) fun x s1 ⟨v1, H1, I1, r1, μ1, M1, d1, rl1, ev1, q1, q2, a1⟩ => ?_
  cases hk : eqD M1 d d1 with
  | none => rw [hk] at a1; exact a1.elim
  | some k =>
    rw [hk] at a1
    refine thn (om_eq hu (fun _ _ _ => False) pins s1 σ H1 v v1 u x (fun z H2 => z = .bl k ∧ ∃ μ2, Rel X.K μ2 M1 H2 ∧ EV X.K μ2 M1.length H2 ρ σ ∧ DV X.K μ2 M1.length H2 d v ∧ AnsS X.K W μ2 M1.length H2 (match some k with
      | some true => g ρ M1
      | some false => r d ρ M1
      | none => .no) D) I1 rv r1 ?_) fun c s2 ⟨z, H2, I2, rz, e1, μ2, r2, ev2, q3, a2⟩ => ?_
    · refine ⟨μ1, M1, d, d1, rl1, q1, q2, ?_⟩
      unfold gEq; rw [hk]
      exact fun μ2 H2 z l r2 qz => ⟨bl_dv qz, μ2, r2, ev1.lift l, q1.lift l, AnsS.rebase l a1⟩
    · subst e1
      cases rz
      refine wpAny_truthy_bool ?_
      cases k with
      | true =>
        rw [if_pos rfl]
        show wpAny _ _ (assignInOrder [] []) _ _ _
        exact wpAny_assignInOrder_none (hb.run pins s2 σ H2 D I2 ⟨μ2, M1, ρ, r2, ev2, a2⟩)
      | false =>
        rw [if_neg (by decide)]
        exact hr.run pins s2 σ H2 D v u false I2 rv ⟨μ2, M1, ρ, d, r2, ev2, q3, a2⟩
theorem ms_match {cs : List MatchCase} {gc : D → FStm} (he : ME X W e f) (hc : MC X W cs gc) : MS X W (.Match e cs pos) (sMatch f gc) := by
  refine ⟨fun pins s σ H D I h => ?_⟩
  refine wpAny_Match ?_
  refine thn (he.run pins s σ H _ I (tSt.expr (rel := DV X.K) h)) fun u s1 ⟨v, H1, I1, rv, μ, M, ρ, d, r, ev, q, a⟩ => ?_
  exact hc.run pins s1 σ H1 D v u true I1 rv ⟨μ, M, ρ, d, r, ev, q, a⟩
end
/-! ### a, *b = a tuple -/
theorem star_tup {prog : Program} {w : World} {A : Around} {E : Value → Shared → Prop} {s : Shared} {l : Addr} {items : Array Value} {n i : Nat} {Q : List Value → Shared → Prop} (hl : IsTup s.heap l items) (hh : A.handled = none) (hi : i < n) (hn : n ≤ items.size + 1) (hz : items.size ≤ 16384)
    (h : ∀ (h2 : Heap) (tk : Nat), (∀ b o, s.heap.get? b = some o → h2.get? b = some o) →
      Q (items.toList.take i ++ [Value.ref h2.objs.size] ++ (items.toList.drop i).drop (items.size + 1 - n)) { s with heap := h2.push { cls := .type "list", data := .seq ((items.toList.drop i).take (items.size + 1 - n)).toArray }, toks := tk }) :
    wpAny (model prog w) A (unpackItems (.ref l) n (some i)) Q E s := by
  have hne : l ≠ s.heap.objs.size := by
    obtain ⟨o, ho, _⟩ := hl
    exact Nat.ne_of_lt (Heap.lt_size ho)
  unfold unpackItems notIterableAtAll
  refine wpAny_bind (wpAny_bind (wpAny_specialOf hl.typeIs slot_tuple_iter.lookup (wpAny_pure ?_)))
  rw [if_neg (by decide)]
  refine wpAny_bind (wpAny_holding (iter_tuple hl ?_))
  refine wpAny_bind (wpAny_holding (draw_tuple hne i 0 _ _ ⟨_, Heap.get?_push_size _ rfl, rfl, rfl⟩ (hl.push _) (by omega) fun h1 t1 b1 => ?_))
  have l1 : IsTup h1 l items := (hl.push _).extBut b1.extBut hne
  have z1 : (items.toList.take i).length = i := by
    rw [List.length_take, Array.length_toList]
    omega
  have z2 : (items.toList.drop i).length = items.size - i := by rw [List.length_drop, Array.length_toList]
  rw [List.drop_zero, if_neg (by rw [z1]; omega)]
  rw [Nat.zero_add] at t1
  obtain ⟨oi, e1, _⟩ := id t1
  obtain ⟨ol, e2, _⟩ := id l1
  refine wpAny_bind (wpAny_holding (PySem.W.kun_collect (s := { s with heap := h1 }) (T := "tuple_iterator") (.inr (.inr (.inr rfl))) (Walks.tuple (A := A.in1) hh s.heap.objs.size l hne items) (fun j u st => st.1.typeIs) (k := i) (by omega) ⟨t1, l1⟩ (Heap.lt_size e1) (Heap.lt_size e2)
    (fun h2 tk k2 => ?_) (by rw [sizeLine_eq]; omega)))
  show wpAny _ _ (if (items.toList.drop i).length < n - 1 - i then _ else _) _ _ _
  rw [if_neg (by rw [z2]; omega)]
  show wpAny _ _ (newList ((items.toList.drop i).take ((items.toList.drop i).length - (n - 1 - i))) >>= fun d => pure (items.toList.take i ++ [d] ++ (items.toList.drop i).drop ((items.toList.drop i).length - (n - 1 - i)))) _ _ _
  have z3 : (items.toList.drop i).length - (n - 1 - i) = items.size + 1 - n := by rw [z2]; omega
  rw [z3]
  have k3 : ∀ b o, s.heap.get? b = some o → h2.get? b = some o := fun b o e => by
    have hb : b ≠ s.heap.objs.size := Nat.ne_of_lt (Heap.lt_size e)
    exact k2 b o hb (b1.extBut b o hb (Heap.get?_push_of_some _ e))
  exact wpAny_bind (wpAny_newObj_type (wpAny_pure (h h2 tk k3)) (by
    show ((items.toList.drop i).take (items.size + 1 - n)).toArray.size ≤ sizeLine
    rw [List.size_toArray, List.length_take, z2, sizeLine_eq]; omega))
/-- a, *b = d: d a tuple of one or more, b a list that nobody writes -/
def gStar (gs : List D → FStm) : FG := fun d ρ M => match d with
  | .tup (x :: xs) => if xs.length < 16384 then gs [x, .lst xs] ρ M else .no
  | _ => .no
theorem mg_star {X : Cx} {W : WX} {t1 t2 : Expr} {p pos : Pos} {k : Nat} {gs : List D → FStm} (hc : X.calm = true) (h : MGs X W [t1, t2] gs)
    (hn : (assignEach [t1, .Starred t2 p] X.env).length = 2 := by rfl) (hst : (assignEach [t1, .Starred t2 p] X.env).findIdx? (·.1) = some 1 := by rfl)
    (hm : (assignEach [t1, .Starred t2 p] X.env).map (·.2) = (assignEach [t1, t2] X.env).map (·.2) := by rfl) : MG X W (.Tuple [t1, .Starred t2 p] k pos) (gStar gs) := by
  refine ⟨fun pins s σ H v u Q I rv ⟨μ, M, ρ, d, r, e, q, a⟩ => ?_⟩
  unfold gStar at a
  split at a
  · rename_i x xs
    split at a
    · rename_i hl
      obtain ⟨p, vs, ev, sq, dq⟩ := tup_dv q
      obtain ⟨y, ys, e2, q1, q2⟩ := dq.inv_cons
      subst ev; subst e2
      cases rv
      obtain ⟨its, rvs, ht, hz⟩ := I.tuple sq
      obtain ⟨u0, us, rfl, ru, rus⟩ : ∃ u0 us, its = u0 :: us ∧ RelV y u0 ∧ Vals ys us := by
        cases rvs with
        | cons h1 h2 => exact ⟨_, _, rfl, h1, h2⟩
      have hus : us.length = xs.length := by rw [← rus.length]; exact q2.length
      rw [PyProof.Rows.assign_Tuple]
      refine wpAny_bind (wpAny_standAt ?_)
      unfold unpack
      rw [hn, hst]
      refine wpAny_bind (wpAny_holding (star_tup ht (I.ok.hd hc) (by decide) (by simp) (by simp; omega) fun h2 tk k2 => ?_))
      rw [hm]
      have e3 : ((u0 :: us).toArray.toList.drop 1).take ((u0 :: us).toArray.size + 1 - 2) = us := by simp
      have e4 : (u0 :: us).toArray.toList.take 1 ++ [Value.ref h2.objs.size] ++ ((u0 :: us).toArray.toList.drop 1).drop ((u0 :: us).toArray.size + 1 - 2) = [u0, Value.ref h2.objs.size] := by simp
      rw [e3, e4]
      have I2 : Inv X pins σ H { s with heap := h2, toks := tk } := I.kept k2
      have hHn : H h2.objs.size = none := I2.hok.fresh (Nat.le_refl _)
      have sz : us.length ≤ sizeLine := by rw [hus, sizeLine_eq]; omega
      have I3 : Inv X pins σ (upd H h2.objs.size (.lst ys)) { s with heap := h2.push { cls := .type "list", data := .seq us.toArray }, toks := tk } :=
        I2.laid (t' := tk) (fun b o e => Heap.get?_push_of_some _ e) (Nat.le_refl _) ⟨by rw [rus.length]; exact sz, us, 0, rus, Heap.get?_push_size _ rfl⟩
      obtain ⟨ob, I4⟩ := Inv.lock I3 upd_same
      rw [upd_upd] at I4
      refine h.run pins _ σ _ [y, .ref h2.objs.size] [u0, .ref h2.objs.size] Q I4 (.cons ru (.cons rfl .nil)) ⟨μ, M, ρ, [x, .lst xs], r.fresh hHn, e.lift (Lift.fresh hHn), ?_, AnsS.rebase (Lift.fresh hHn) a⟩
      refine DVs.cons (q1.lift (Lift.fresh hHn)) (DVs.cons ?_ DVs.nil)
      unfold DV
      exact ⟨_, ys, rfl, .inl ⟨ob, upd_same⟩, q2.lift (Lift.fresh hHn)⟩
    · exact a.elim
  · exact a.elim
end Br
end
section
namespace Br
open PySem PySem.Spec PyProof.Rows L2
/-! ### a dict of the module: texts by texts -/
structure KS (K : PySem.W.Frag) (w : World) (name : Str) (kvs : List (Str × Str)) : Prop where
  kd : ∃ es n, KDict K w (He.ga K name) es n
  get : ∀ z, match kvs.lookup z with
    | some v => ∃ u, PySem.W.nsIn K (He.ga K name) z = some (some u) ∧ RelV (.str v) u
    | none => PySem.W.nsIn K (He.ga K name) z = some none
theorem ns_none {K : PySem.W.Frag} {w : World} {a : Addr} {ks : List Str} {z : Str} (h : He.dicW K a = some (He.keysIn w.params ks)) (hz : z ∉ ks) : PySem.W.nsIn K a z = some none := by
  unfold He.dicW at h
  split at h
  · rename_i es n sl e
    have hk : es.toList.map He.keyOf = He.keysIn w.params ks := by
      split at h
      · exact Option.some.inj h
      · cases h
    unfold PySem.W.nsIn
    rw [e]
    dsimp only
    have key : ∀ (l : List DictEntry) (ks : List Str), l.map He.keyOf = He.keysIn w.params ks → z ∉ ks → l.find? (·.key.isStr z) = none ∧ l.any (·.refKey) = false := by
      intro l
      induction l with
      | nil => intro ks _ _; exact ⟨rfl, rfl⟩
      | cons d r ih =>
        intro ks hk hz
        cases ks with
        | nil => cases hk
        | cons k ks =>
          have h1 : He.keyOf d :: r.map He.keyOf = some (k, PyData.keyHash w.params k) :: He.keysIn w.params ks := hk
          injection h1 with h2 h3
          obtain ⟨i1, i2⟩ := ih ks h3 fun m => hz (List.mem_cons_of_mem _ m)
          unfold He.keyOf at h2
          split at h2
          · rename_i x t q
            have h4 := Option.some.inj h2
            have hx : x = k := (Prod.mk.inj h4).1
            subst hx
            have hne : (d.key.isStr z) = false := by
              rw [q]
              show (x == z) = false
              exact beq_eq_false_iff_ne.mpr fun e => hz (by rw [e]; exact List.mem_cons_self ..)
            have hr : d.refKey = false := by unfold DictEntry.refKey; rw [q]
            refine ⟨?_, ?_⟩
            · rw [List.find?_cons, hne]; exact i1
            · rw [List.any_cons, hr, i2]; rfl
          · cases h2
    obtain ⟨k1, k2⟩ := key es.toList ks hk hz
    rw [k1, k2]
    rfl
  · cases h
theorem ks_of {K : PySem.W.Frag} {w : World} {name : Str} {kvs : List (Str × Str)} (h : He.dicW K (He.ga K name) = some (He.keysIn w.params (kvs.map (·.1)))) (hv : He.valsB K (He.ga K name) (kvs.map fun q => (q.1, He.Dv.str q.2)) = true) : KS K w name kvs := by
  refine ⟨He.dicW_ok h, fun z => ?_⟩
  cases e : kvs.lookup z with
  | none =>
    refine ns_none h fun m => ?_
    obtain ⟨q, hq, rfl⟩ := List.mem_map.mp m
    exact absurd e (by
      intro e
      have : ∀ l : List (Str × Str), q ∈ l → l.lookup q.1 ≠ none := by
        intro l
        induction l with
        | nil => intro h; cases h
        | cons p l ih =>
          intro h e
          rw [List.lookup_cons] at e
          split at e
          · cases e
          · rename_i hne
            rcases List.mem_cons.mp h with rfl | h
            · simp at hne
            · exact ih h e
      exact this kvs hq e)
  | some v =>
    have hm : (z, v) ∈ kvs := by
      have : ∀ l : List (Str × Str), l.lookup z = some v → (z, v) ∈ l := by
        intro l
        induction l with
        | nil => intro h; cases h
        | cons p l ih =>
          intro e
          rw [List.lookup_cons] at e
          split at e
          · rename_i hz
            cases e
            rw [eq_of_beq hz]; exact List.mem_cons_self ..
          · exact List.mem_cons_of_mem _ (ih e)
      exact this kvs e
    exact He.valsB_ok hv (q := (z, He.Dv.str v)) (List.mem_map.mpr ⟨(z, v), hm, rfl⟩)
def gInK (name : Str) (kvs : List (Str × Str)) (neg : Bool) : F2 := fun x y M => match x, y with
  | .str z, .gl n => if n = name then .ok (.bl (if neg then !(kvs.lookup z).isSome else (kvs.lookup z).isSome)) M else .no
  | _, _ => .no
def gIxK (name : Str) (kvs : List (Str × Str)) : F2 := fun x y M => match x, y with
  | .gl n, .str z => if n = name then (match kvs.lookup z with
    | some v => .ok (.str v) M
    | none => .no) else .no
  | _, _ => .no
theorem gl_dv {K : PySem.W.Frag} {μ : Nat → Addr} {N : Nat} {H : Hp} {i : Str} {v : V} (h : DV K μ N H (.gl i) v) : v = .ref (He.ga K i) := by unfold DV at h; exact h
section
variable {X : Cx} {name : Str} {kvs : List (Str × Str)}
theorem om_inK (D : KS X.K X.w name kvs) : OpM X (compareOp .In) (gInK name kvs false) := by
  intro W pins s σ H x y v u Q I rx ry ⟨μ, M, a, b, r, qa, qb, an⟩
  unfold gInK at an
  split at an
  · split at an
    · rename_i z n hn
      subst hn
      obtain ⟨es, n, kd⟩ := D.kd
      have g := D.get z
      have ha := str_dv qa
      have hb := gl_dv qb
      cases e : kvs.lookup z with
      | none =>
        rw [e] at g an
        exact op_in_kd kd pins s σ H x y v u Q I rx ry ⟨z, none, ha, hb, g, ans_pure r dv_bl an⟩
      | some t =>
        rw [e] at g an
        obtain ⟨u0, g1, g2⟩ := g
        exact op_in_kd kd pins s σ H x y v u Q I rx ry ⟨z, some u0, ha, hb, g1, ans_pure r dv_bl an⟩
    · exact an.elim
  · exact an.elim
theorem om_notInK (D : KS X.K X.w name kvs) : OpM X (compareOp .NotIn) (gInK name kvs true) := by
  intro W pins s σ H x y v u Q I rx ry ⟨μ, M, a, b, r, qa, qb, an⟩
  unfold gInK at an
  split at an
  · split at an
    · rename_i z n hn
      subst hn
      obtain ⟨es, n, kd⟩ := D.kd
      have g := D.get z
      have ha := str_dv qa
      have hb := gl_dv qb
      cases e : kvs.lookup z with
      | none =>
        rw [e] at g an
        exact op_notIn_kd kd pins s σ H x y v u Q I rx ry ⟨z, none, ha, hb, g, ans_pure r dv_bl an⟩
      | some t =>
        rw [e] at g an
        obtain ⟨u0, g1, g2⟩ := g
        exact op_notIn_kd kd pins s σ H x y v u Q I rx ry ⟨z, some u0, ha, hb, g1, ans_pure r dv_bl an⟩
    · exact an.elim
  · exact an.elim
theorem ixK (D : KS X.K X.w name kvs) : IxM X (gIxK name kvs) := by
  intro W value slice pins s σ H x y v u Q I rx ry ⟨μ, M, a, b, r, qa, qb, an⟩ hs
  unfold gIxK at an
  split at an
  · split at an
    · rename_i n z hn
      subst hn
      obtain ⟨es, n, kd⟩ := D.kd
      have g := D.get z
      have ha := gl_dv qa
      have hb := str_dv qb
      cases e : kvs.lookup z with
      | none => rw [e] at an; exact an.elim
      | some t =>
        rw [e] at g an
        obtain ⟨u0, g1, g2⟩ := g
        refine ix_kdict value slice pins s σ H x y v u Q I rx ry ⟨_, z, .str t, ha, hb, ⟨es, n, u0, kd.at_, kd.lit, g1, g2⟩, ans_pure r dv_str an⟩ hs
    · exact an.elim
  · exact an.elim
end
end Br
end
section
namespace Br
open PySem PySem.Spec PyProof.Rows L2
/-! ### a tuple's [::-1] -/
theorem pick_rev (xs : Array Value) : ((List.range xs.size).filterMap fun (m : Nat) => xs[((xs.size : Int) - 1 + (m : Int) * (-1)).toNat]?) = xs.toList.reverse := by
  have key : ∀ n, n ≤ xs.size → ((List.range n).filterMap fun (m : Nat) => xs[((xs.size : Int) - 1 + (m : Int) * (-1)).toNat]?) = xs.toList.reverse.take n := by
    intro n
    induction n with
    | zero => intro _; rfl
    | succ n ih =>
      intro hn
      rw [List.range_succ, List.filterMap_append, ih (by omega)]
      have e : ((xs.size : Int) - 1 + (n : Int) * (-1)).toNat = xs.size - 1 - n := by omega
      have hl : n < xs.toList.reverse.length := by rw [List.length_reverse, Array.length_toList]; omega
      rw [List.take_succ, List.getElem?_eq_getElem hl]
      congr 1
      simp only [List.filterMap_cons, List.filterMap_nil, e]
      have h2 : xs.size - 1 - n < xs.size := by omega
      rw [Array.getElem?_eq_getElem h2]
      have h3 : xs.toList.reverse[n] = xs[xs.size - 1 - n] := by
        rw [List.getElem_reverse]; simp
      rw [h3]; rfl
  rw [key xs.size (Nat.le_refl _)]
  exact List.take_of_length_le (by simp)
theorem tup_rev {prog : Program} {w : World} {A : Around} {E : Value → Shared → Prop} {s : Shared} {t sl : Addr} {items : Array Value} {vl vu vs : Value} {Q : Value → Shared → Prop} (ht : IsTup s.heap t items) (hs : s.heap.IsSliceOf sl vl vu vs) (pl : IsPart vl none) (pu : IsPart vu none) (ps : IsPart vs (some (-1)))
    (h : Q (.ref s.heap.objs.size) { s with heap := s.heap.push { cls := .type "tuple", data := .seq items.toList.reverse.toArray } }) (hsz : items.size ≤ sizeLine) : wpAny (model prog w) A (getItem (.ref t) (.ref sl)) Q E s := by
  have hz : sizeOk (.seq items.toList.reverse.toArray) := by
    show items.toList.reverse.toArray.size ≤ sizeLine
    rw [List.size_toArray, List.length_reverse, Array.length_toList]; exact hsz
  obtain ⟨os, hos, hcs, hds⟩ := id hs
  have hT : s.TypeIs (.ref sl) "slice" := ⟨os, hos, hcs⟩
  unfold getItem
  refine wpAny_holding (wpAny_bind (wpAny_sequenceKey (A := A) ht.typeIs (by decide) ?_))
  refine wpAny_bind (wpAny_callSpecial?_slot (A := A) (name := Str.ofString "__getitem__") ht.typeIs PyProof.Rows.slot_tuple_getitem (wpAny_call_entry PyProof.Rows.slot_tuple_getitem ht.typeIs entry_tuple_getitem ?_ (args_tuple_getitem _ _)))
  show wpAny _ _ (Builtin.Tuple.tupleItemsOf (.ref t) >>= _) _ _ s
  refine wpAny_bind (PyProof.Rows.tupleItemsOf_ ht (wpAny_bind (wpAny_typeOf hT ?_)))
  rw [if_pos (by decide)]
  have app : ∀ (Q1 : Int × Int × Nat → Shared → Prop) (A1 : Around) (E1 : Value → Shared → Prop), Q1 ((items.size : Int) - 1, -1, items.size) s → wpAny (model prog w) A1 (Builtin.Slice.sliceApplied (.ref sl) (pure (items.size : Int))) Q1 E1 s := fun Q1 A1 E1 hq => by
    unfold Builtin.Slice.sliceApplied Builtin.Slice.sliceFields
    refine wpAny_bind (wpAny_bind (wpAny_field hos hds (x := vl) rfl (wpAny_bind (wpAny_field hos hds (x := vu) rfl (wpAny_bind (wpAny_field hos hds (x := vs) rfl (wpAny_pure ?_)))))))
    refine wpAny_bind (HT.slicePart_ ps ?_)
    show wpAny _ _ (if ((-1 : Int) == 0) = true then _ else _) _ _ s
    rw [if_neg (by decide)]
    refine wpAny_bind (HT.slicePart_ pl (wpAny_bind (HT.slicePart_ pu (wpAny_bind (wpAny_pure ?_)))))
    have e1 : Builtin.Slice.sliceAdjust none none (-1) (items.size : Int) = ((items.size : Int) - 1, -1) := by simp [Builtin.Slice.sliceAdjust]
    have e2 : Builtin.Slice.slicePlaces ((items.size : Int) - 1) (-1) (-1) = items.size := by
      unfold Builtin.Slice.slicePlaces
      rw [if_neg (by decide)]
      by_cases h0 : (items.size : Int) - 1 > -1
      · rw [if_pos h0]; simp
      · rw [if_neg h0]; omega
    show wpAny _ _ (match Builtin.Slice.sliceAdjust none none (-1) (items.size : Int) with | (lo, hi) => pure (lo, (-1 : Int), Builtin.Slice.slicePlaces lo hi (-1))) _ _ s
    rw [e1]
    show wpAny _ _ (pure ((items.size : Int) - 1, (-1 : Int), Builtin.Slice.slicePlaces ((items.size : Int) - 1) (-1) (-1))) _ _ s
    rw [e2]
    exact wpAny_pure hq
  refine wpAny_bind (app _ _ _ ?_)
  show wpAny _ _ (if ((items.size : Int) - 1 == 0 && (-1 : Int) == 1 && items.size == items.size) = true then _ else _) _ _ s
  rw [if_neg (by simp), pick_rev]
  first
    | exact wpAny_bind (m := Builtin.Tuple.tupleExact _) (wpAny_newObj_type (A := A.in1) (wpAny_pure ⟨_, rfl, wpAny_pure h⟩) hz)
    | exact wpAny_bind (m := Builtin.Tuple.tupleExact _) (wpAny_newObj_type (wpAny_bind (wpAny_pure (wpAny_pure ⟨_, rfl, wpAny_pure h⟩))) hz)
    | exact wpAny_bind (wpAny_bind (m := Builtin.Tuple.tupleExact _) (wpAny_newObj_type (wpAny_pure (wpAny_pure ⟨_, rfl, wpAny_pure h⟩)) hz))
    | exact wpAny_bind (wpAny_bind (m := Builtin.Tuple.tupleExact _) (wpAny_newObj_type (wpAny_pure ⟨_, rfl, wpAny_pure h⟩) hz))
def gRev : F1 := fun a M => match a with
  | .tup xs => .ok (.tup xs.reverse) M
  | _ => .no
section
variable {X : Cx} {W : WX} {e : Expr} {f : FE} {k : Nat} {p1 p2 p3 pos : Pos}
theorem me_rev (he : ME X W e f) : ME X W (.Subscript e (.Slice none none (some (.UnaryOp .USub (.Constant (.int 1) k p1) p2)) p3) pos) (e1 gRev f) := by
  refine ⟨fun pins s σ H Q I h => ?_⟩
  refine Subscript_ (thn (he.run pins s σ H _ I (tM.seq (rel := DV X.K) h)) fun v s1 ⟨x, H1, I1, r1, μ, M, ρ, d, rl, ev, q, a⟩ => ?_)
  unfold gRev at a
  split at a
  · obtain ⟨t, xs, ex, sq, dq⟩ := tup_dv q
    subst ex
    cases r1
    have hst : PO X (some (.UnaryOp .USub (.Constant (.int 1) k p1) p2)) (tPart (tUn (rU fun i => .int (-i)) (L2.tC (.int 1)))) := po_some (pe_un un_neg pe_int)
    refine wpAny_Slice (thn (po_none.run pins s1 σ H1 (fun o H2 => o = none ∧ H2 = H1) I1 ⟨rfl, rfl⟩) fun vl s2 ⟨l, H2, I2, pl, el, e2⟩ => ?_)
    subst el; subst e2
    refine thn (po_none.run pins s2 σ _ (fun o H3 => o = none ∧ H3 = H2) I2 ⟨rfl, rfl⟩) fun vu s3 ⟨u, H3, I3, pu, eu, e3⟩ => ?_
    subst eu; subst e3
    refine thn (hst.run pins s3 σ _ (fun o H4 => o = some (-1) ∧ H4 = H3) I3 ⟨1, rfl, -1, rfl, rfl, rfl⟩) fun vs s4 ⟨o, H4, I4, ps, eo, e4⟩ => ?_
    subst eo; subst e4
    have I5 : Inv X pins σ H4 { s4 with heap := s4.heap.push { cls := .type "slice", data := .fields #[vl, vu, vs] } } := I4.kept (t' := s4.toks) fun b ob z => Heap.get?_push_of_some _ z
    obtain ⟨its, r, ht, hz⟩ := I5.tuple sq
    have hlen := r.length
    show wpAny (model X.prog X.w) X.A (subscriptTail e (.Slice none none (some (.UnaryOp .USub (.Constant (.int 1) k p1) p2)) p3) (.ref t) (.ref s4.heap.objs.size)) (EP X pins σ Q) X.xe { s4 with heap := s4.heap.push { cls := .type "slice", data := .fields #[vl, vu, vs] } }
    refine tail_any (ops := [.ref t, .ref s4.heap.objs.size]) ht.typeIs slot_tuple_getitem.lookup ?_ (by with_unfolding_all rfl)
    refine tup_rev ht (Heap.IsSliceOf.new _ vl vu vs) pl pu ps ?_ (by rw [List.size_toArray]; omega)
    have hp := I5.hok.fresh (Nat.le_refl _)
    refine ⟨.ref _, _, I5.laid (t' := s4.toks) (o := .tup xs.reverse) (fun b ob z => Heap.get?_push_of_some _ z) (Nat.le_refl _) ?_, rfl, ?_⟩
    · exact ⟨by rw [List.length_reverse]; exact hz, its.reverse, r.reverse, _, Heap.get?_push_size _ rfl, rfl, _, rfl⟩
    · exact a μ _ _ (Lift.fresh hp) (rl.fresh hp) (dv_tup (SqT.of upd_same) (dq.reverse.lift (Lift.fresh hp)))
  · exact a.elim
end
end Br
end
section
namespace Br
open PySem PySem.Spec PyProof.Rows
/-! ### zip(.., strict=True) over two iterators -/
abbrev IsZipS (h : Heap) (z TI TO : Addr) (f0 : Value) : Prop := h.get? z = some { cls := .type "zip", data := .fields #[f0, .bool false, .bool true, .ref TI, .ref TO] }
section
variable {prog : Program} {w : World} {A : Around} {E : Value → Shared → Prop} {s : Shared} {z TI TO i1 i2 : Addr} {fp1 fp2 : List Addr} {n i : Nat} {P1 P2 : Nat → Value → Prop} {St1 St2 : Nat → Heap → Prop} {a1 a2 : Value}
theorem dr_item {it : Addr} {fp : List Addr} {P : Nat → Value → Prop} {St : Nat → Heap → Prop} {Q : Option Value → Shared → Prop} (D : Draws prog w A it fp n P St) (hi : i < n) (st : St i s.heap)
    (hQ : ∀ x h' tk, P i x → St (i + 1) h' → Heap.SameBut it s.heap h' → Q (some x) { s with heap := h', toks := tk }) : wpAny (model prog w) A (Builtin.SmallTypes.nextOrEnd (.ref it)) Q E s := by
  unfold Builtin.SmallTypes.nextOrEnd
  exact wpAny_bind (wpAny_attempt (D.item i s _ _ hi st fun x h' tk p q r => wpAny_pure (hQ x h' tk p q r)))
theorem dr_end {it : Addr} {fp : List Addr} {P : Nat → Value → Prop} {St : Nat → Heap → Prop} {Q : Option Value → Shared → Prop} (D : Draws prog w A it fp n P St) (st : St n s.heap)
    (hQ : ∀ h', Heap.ExtBut it s.heap h' → Q none { s with heap := h' }) : wpAny (model prog w) A (Builtin.SmallTypes.nextOrEnd (.ref it)) Q E s := by
  unfold Builtin.SmallTypes.nextOrEnd
  refine wpAny_bind (wpAny_attempt (D.done s _ _ st fun h' e x ⟨o, ho, hc⟩ => ?_))
  refine wpAny_bind (wpAny_isInstance (T := "StopIteration") (b := true) ⟨o, ho, hc⟩ isSubtype_stop ?_)
  exact wpAny_pure (hQ h' x)
theorem zipS_item {Q : Value → Shared → Prop} (S : ZipSep2 z TI TO i1 i2 fp1 fp2) (D1 : Draws prog w A i1 fp1 n P1 St1) (D2 : Draws prog w A i2 fp2 n P2 St2)
    (hz : IsZipS s.heap z TI TO .none) (hTI : IsTupOf2 s.heap TI (.ref i1) (.ref i2)) (hTO : IsTupOf2 s.heap TO a1 a2) (st1 : St1 i s.heap) (st2 : St2 i s.heap) (hi : i < n)
    (hQ : ∀ x1 x2 h' tk, P1 i x1 → P2 i x2 → IsZipS h' z TI TO (rawInt s.heap.objs.size) → IsTupOf2 h' TO x1 x2 → St1 (i + 1) h' → St2 (i + 1) h' → IsTupOf2 h' s.heap.objs.size x1 x2 → h'.objs.size = s.heap.objs.size + 1 →
      (∀ c o, c ≠ z → c ≠ TO → c ≠ i1 → c ≠ i2 → s.heap.get? c = some o → h'.get? c = some o) → Q (.ref s.heap.objs.size) { s with heap := h', toks := tk }) :
    wpAny (model prog w) A (Builtin.«zip.__next__» ⟨[.ref z], []⟩) (fun fin s' => ∃ v, fin = .done (.ret v) ∧ Q v s') E s := by
  obtain ⟨hp, g, d, tk, os⟩ := s
  show wpAny _ _ (field (.ref z) 2 >>= _) _ _ _
  refine wpAny_bind (wpAny_field (A := A) hz rfl (x := .bool true) rfl ?_)
  show wpAny _ _ (field (.ref z) 3 >>= _) _ _ _
  refine wpAny_bind (wpAny_field (A := A) hz rfl (x := .ref TI) rfl (wpAny_bind (wpAny_seqItems hTI rfl ?_)))
  show wpAny _ _ (Builtin.SmallTypes.ownedTupleIsFree (.ref z) >>= _) _ _ _
  unfold Builtin.SmallTypes.ownedTupleIsFree
  refine wpAny_bind (wpAny_bind (wpAny_field (A := A) hz rfl (x := .none) rfl (wpAny_pure ?_)))
  rw [if_pos rfl]
  refine wpAny_bind (wpAny_rule (wpAny_bind (wpAny_field (A := A) hz rfl (x := .ref TO) rfl ?_)))
  refine wpAny_bind (wpAny_setField_rec (A := A) hz (by simp) fun k0 z0 b0 => ?_)
  have z0 : IsZipS k0 z TI TO .ellipsis := z0
  have b0 : Heap.SameBut z hp k0 := b0
  simp only [List.zipIdx_cons, List.zipIdx_nil, List.forIn_cons, List.forIn_nil]
  refine wpAny_bind (wpAny_bind (wpAny_bind (wpAny_onRaise ?_)))
  show wpAny _ _ (Builtin.SmallTypes.nextOrEnd (.ref i1)) _ _ ⟨k0, g, d, tk, os⟩
  refine dr_item D1 hi (D1.over st1 b0 S.zf1) fun x1 k1 t1 e1 n1 b1 => ?_
  have b1 : Heap.SameBut i1 k0 k1 := b1
  have u1 : IsTupOf2 k1 TO a1 a2 := b1.extBut _ _ S.Ti1 (b0.extBut _ _ S.TOz hTO)
  refine wpAny_bind (wpAny_seqItems (s := ⟨k1, g, d, t1, os⟩) u1 rfl (wpAny_bind (updateSeq_IsTupOf2 (s := ⟨k1, g, d, t1, os⟩) u1 fun k2 v2 b2 => ?_)))
  have v2 : IsTupOf2 k2 TO x1 a2 := v2
  have b2 : Heap.SameBut TO k1 k2 := b2
  refine wpAny_bind (wpAny_letGo (A := A) (wpAny_pure (wpAny_bind (wpAny_bind (wpAny_onRaise ?_)))))
  show wpAny _ _ (Builtin.SmallTypes.nextOrEnd (.ref i2)) _ _ ⟨k2, g, d, t1, os⟩
  refine dr_item D2 hi (D2.over (D2.over (D2.over st2 b0 S.zf2) b1 S.sep1_2) b2 S.Tf2) fun x2 k3 t2 e2 n2 b3 => ?_
  have b3 : Heap.SameBut i2 k2 k3 := b3
  have u2 : IsTupOf2 k3 TO x1 a2 := b3.extBut _ _ S.Ti2 v2
  refine wpAny_bind (wpAny_seqItems (s := ⟨k3, g, d, t2, os⟩) u2 rfl (wpAny_bind (updateSeq_IsTupOf2 (s := ⟨k3, g, d, t2, os⟩) u2 fun k4 v4 b4 => ?_)))
  have v4 : IsTupOf2 k4 TO x1 x2 := v4
  have b4 : Heap.SameBut TO k3 k4 := b4
  refine wpAny_bind (wpAny_letGo (A := A) (wpAny_pure (wpAny_pure ?_)))
  refine wpAny_bind (wpAny_seqItems (s := ⟨k4, g, d, t2, os⟩) v4 rfl (wpAny_bind (wpAny_newTuple ?_)))
  have sz : k4.objs.size = hp.objs.size := by rw [b4.1, b3.1, b2.1, b1.1, b0.1]
  have z4 : IsZipS k4 z TI TO .ellipsis := b4.extBut _ _ S.TOz.symm (b3.extBut _ _ S.zi2 (b2.extBut _ _ S.TOz.symm (b1.extBut _ _ S.zi1 z0)))
  have kk : ∀ c o, c ≠ z → c ≠ TO → c ≠ i1 → c ≠ i2 → hp.get? c = some o → k4.get? c = some o := fun c o q1 q2 q3 q4 e => b4.extBut _ _ q2 (b3.extBut _ _ q4 (b2.extBut _ _ q2 (b1.extBut _ _ q3 (b0.extBut _ _ q1 e))))
  have j1 : St1 (i + 1) k4 := D1.over (D1.over (D1.over n1 b2 S.Tf1) b3 S.sep2_1) b4 S.Tf1
  have j2 : St2 (i + 1) k4 := D2.over n2 b4 S.Tf2
  have zl : z < k4.objs.size := Heap.lt_size z4
  show wpAny _ _ (Builtin.SmallTypes.ownedTupleHandOut (.ref z) (.ref k4.objs.size) >>= _) _ _ ⟨k4.push { cls := .type "tuple", data := .seq #[x1, x2] }, g, d, t2, os⟩
  unfold Builtin.SmallTypes.ownedTupleHandOut
  have z5 : IsZipS (k4.push { cls := .type "tuple", data := .seq #[x1, x2] }) z TI TO .ellipsis := Heap.get?_push_of_some _ z4
  refine wpAny_bind (wpAny_bind (wpAny_setField_rec (A := A) z5 (by simp) fun k6 z6 b6 => ?_))
  have z6 : IsZipS k6 z TI TO (rawInt k4.objs.size) := z6
  have b6 : Heap.SameBut z (k4.push { cls := .type "tuple", data := .seq #[x1, x2] }) k6 := b6
  refine wpAny_setField_rec (A := A) z6 (by simp) fun k7 z7 b7 => ?_
  have z7 : IsZipS k7 z TI TO (rawInt k4.objs.size) := z7
  have b7 : Heap.SameBut z k6 k7 := b7
  have up : ∀ c o, c ≠ z → k4.get? c = some o → k7.get? c = some o := fun c o q e => b7.extBut _ _ q (b6.extBut _ _ q (Heap.get?_push_of_some _ e))
  have T7 : IsTupOf2 k7 k4.objs.size x1 x2 := b7.extBut _ _ (Nat.ne_of_gt zl) (b6.extBut _ _ (Nat.ne_of_gt zl) (Heap.get?_push_size _ rfl))
  have s7 : k7.objs.size = k4.objs.size + 1 := by rw [b7.1, b6.1, Heap.size_push]
  rw [sz] at z7 T7 s7
  refine wpAny_pure ⟨_, rfl, ?_⟩
  show Q (.ref k4.objs.size) ⟨k7, g, d, t2, os⟩
  rw [sz]
  exact hQ x1 x2 k7 t2 e1 e2 z7 (up _ _ S.TOz v4) (D1.frame _ _ _ j1 fun b hb o e => up b o (fun q => S.zf1 (q ▸ hb)) e) (D2.frame _ _ _ j2 fun b hb o e => up b o (fun q => S.zf2 (q ▸ hb)) e) T7 s7 fun c o q1 q2 q3 q4 e => up c o q1 (kk c o q1 q2 q3 q4 e)
theorem stop_it {Q : Fin → Shared → Prop} (hh : A.handled = none) (hE : ∀ h' e, (∀ c o, s.heap.get? c = some o → h'.get? c = some o) → (∃ o, h'.get? e = some o ∧ o.cls = .type "StopIteration") → E (.ref e) { s with heap := h' }) :
    wpAny (model prog w) A (newExc (.type "StopIteration") [] >>= fun e => raiseNew e) Q E s := by
  refine wpAny_bind ?_
  simp only [newExc, newTuple]
  refine wpAny_bind (wpAny_newObj_type (A := A) ?_ (by size_fits))
  refine wpAny_bind (m := firstArgMember _ _) (wpAny_of_eq (A := A) (a := Value.none) (by first | rfl | (simp only [firstArgMember]; rfl)) ?_)
  refine wpAny_newObj_type (A := A) ?_ (by size_fits)
  simp only [raiseNew]
  refine wpAny_bind (wpAny_handled ?_)
  rw [hh]
  refine wpAny_bind (wpAny_pure (wpAny_throw (hE _ _ (fun c o e => Heap.get?_push_of_some _ (Heap.get?_push_of_some _ e)) ⟨_, Heap.get?_push_size _ rfl, rfl⟩)))
theorem zipS_end {Q : Fin → Shared → Prop} (hh : A.handled = none) (S : ZipSep2 z TI TO i1 i2 fp1 fp2) (D1 : Draws prog w A i1 fp1 n P1 St1) (D2 : Draws prog w A i2 fp2 n P2 St2)
    (hz : IsZipS s.heap z TI TO .none) (hTI : IsTupOf2 s.heap TI (.ref i1) (.ref i2)) (hTO : IsTupOf2 s.heap TO a1 a2) (st1 : St1 n s.heap) (st2 : St2 n s.heap)
    (hE : ∀ h' e, (∀ c o, c ≠ z → c ≠ TO → c ≠ i1 → c ≠ i2 → s.heap.get? c = some o → h'.get? c = some o) → (∃ o, h'.get? e = some o ∧ o.cls = .type "StopIteration") → E (.ref e) { s with heap := h' }) :
    wpAny (model prog w) A (Builtin.«zip.__next__» ⟨[.ref z], []⟩) Q E s := by
  obtain ⟨hp, g, d, tk, os⟩ := s
  show wpAny _ _ (field (.ref z) 2 >>= _) _ _ _
  refine wpAny_bind (wpAny_field (A := A) hz rfl (x := .bool true) rfl ?_)
  show wpAny _ _ (field (.ref z) 3 >>= _) _ _ _
  refine wpAny_bind (wpAny_field (A := A) hz rfl (x := .ref TI) rfl (wpAny_bind (wpAny_seqItems hTI rfl ?_)))
  show wpAny _ _ (Builtin.SmallTypes.ownedTupleIsFree (.ref z) >>= _) _ _ _
  unfold Builtin.SmallTypes.ownedTupleIsFree
  refine wpAny_bind (wpAny_bind (wpAny_field (A := A) hz rfl (x := .none) rfl (wpAny_pure ?_)))
  rw [if_pos rfl]
  refine wpAny_bind (wpAny_rule (wpAny_bind (wpAny_field (A := A) hz rfl (x := .ref TO) rfl ?_)))
  refine wpAny_bind (wpAny_setField_rec (A := A) hz (by simp) fun k0 z0 b0 => ?_)
  have z0 : IsZipS k0 z TI TO .ellipsis := z0
  have b0 : Heap.SameBut z hp k0 := b0
  simp only [List.zipIdx_cons, List.zipIdx_nil, List.forIn_cons, List.forIn_nil]
  refine wpAny_bind (wpAny_bind (wpAny_bind (wpAny_onRaise ?_)))
  show wpAny _ _ (Builtin.SmallTypes.nextOrEnd (.ref i1)) _ _ ⟨k0, g, d, tk, os⟩
  refine dr_end D1 (D1.over st1 b0 S.zf1) fun k1 x1 => ?_
  have x1 : Heap.ExtBut i1 k0 k1 := x1
  have z1 : IsZipS k1 z TI TO .ellipsis := x1 _ _ S.zi1 z0
  refine wpAny_bind (wpAny_setField_rec (A := A) (s := ⟨k1, g, d, tk, os⟩) z1 (by simp) fun k2 z2 b2 => ?_)
  have b2 : Heap.SameBut z k1 k2 := b2
  refine wpAny_bind ?_
  wp_delta
  rw [if_neg (by decide)]
  simp only [List.drop_succ_cons, List.drop_zero, List.zipIdx_cons, List.zipIdx_nil, List.forIn_cons, List.forIn_nil]
  refine wpAny_bind (wpAny_bind (wpAny_bind ?_))
  have b2' : Heap.SameBut z k1 k2 := b2
  have st2' : St2 n k2 := D2.frame n hp k2 st2 fun b hb o e => by
    have hz' : b ≠ z := fun q => S.zf2 (q ▸ hb)
    have hi' : b ≠ i1 := fun q => S.sep1_2 (q ▸ hb)
    exact b2'.extBut _ _ hz' (x1 _ _ hi' (b0.extBut _ _ hz' e))
  refine dr_end (s := ⟨k2, g, d, tk, os⟩) D2 st2' fun k3 x3 => ?_
  have x3 : Heap.ExtBut i2 k2 k3 := x3
  rw [if_neg (by decide)]
  refine wpAny_pure (wpAny_pure ?_)
  refine wpAny_bind (wpAny_rule ?_)
  refine stop_it (s := ⟨k3, g, d, tk, os⟩) hh fun h' e k4 he => ?_
  exact hE h' e (fun c o q1 q2 q3 q4 q => k4 _ _ (x3 _ _ q4 (b2'.extBut _ _ q1 (x1 _ _ q3 (b0.extBut _ _ q1 q))))) he
end
end Br
end
section
namespace Br
open PySem PySem.Spec PyProof.Rows
/-! ### zip(a text, a list, strict=True) in a comprehension -/
section
variable {prog : Program} {w : World} {A : Around} {E : Value → Shared → Prop} {s : Shared} {z TI TO i1 i2 : Addr} {fp1 fp2 : List Addr} {n i : Nat} {P1 P2 : Nat → Value → Prop} {St1 St2 : Nat → Heap → Prop} {a1 a2 : Value}
theorem py_zipS_item {Q : Option Value → Shared → Prop} (S : ZipSep2 z TI TO i1 i2 fp1 fp2) (D1 : Draws prog w A.in1 i1 fp1 n P1 St1) (D2 : Draws prog w A.in1 i2 fp2 n P2 St2)
    (hz : IsZipS s.heap z TI TO .none) (hTI : IsTupOf2 s.heap TI (.ref i1) (.ref i2)) (hTO : IsTupOf2 s.heap TO a1 a2) (st1 : St1 i s.heap) (st2 : St2 i s.heap) (hi : i < n)
    (hQ : ∀ x1 x2 h' tk, P1 i x1 → P2 i x2 → IsZipS h' z TI TO (rawInt s.heap.objs.size) → IsTupOf2 h' TO x1 x2 → St1 (i + 1) h' → St2 (i + 1) h' → IsTupOf2 h' s.heap.objs.size x1 x2 → h'.objs.size = s.heap.objs.size + 1 →
      (∀ c o, c ≠ z → c ≠ TO → c ≠ i1 → c ≠ i2 → s.heap.get? c = some o → h'.get? c = some o) → Q (some (.ref s.heap.objs.size)) { s with heap := h', toks := tk }) : wpAny (model prog w) A (pyNext (.ref z)) Q E s := by
  have hT : s.TypeIs (.ref z) "zip" := ⟨_, hz, rfl⟩
  unfold pyNext
  refine wpAny_bind (wpAny_attempt (wpAny_callSpecial?_slot (A := A) (name := Str.ofString "__next__") hT F.slot_zip_next (wpAny_call_entry F.slot_zip_next hT F.entry_zip_next ?_ (F.args_zip_next_1 _))))
  exact zipS_item S D1 D2 hz hTI hTO st1 st2 hi fun x1 x2 h' tk y1 y2 b1 b2 d1 d2 b5 b6 b7 => wpAny_pure (hQ x1 x2 h' tk y1 y2 b1 b2 d1 d2 b5 b6 b7)
theorem py_zipS_end {Q : Option Value → Shared → Prop} (hh : A.handled = none) (S : ZipSep2 z TI TO i1 i2 fp1 fp2) (D1 : Draws prog w A.in1 i1 fp1 n P1 St1) (D2 : Draws prog w A.in1 i2 fp2 n P2 St2)
    (hz : IsZipS s.heap z TI TO .none) (hTI : IsTupOf2 s.heap TI (.ref i1) (.ref i2)) (hTO : IsTupOf2 s.heap TO a1 a2) (st1 : St1 n s.heap) (st2 : St2 n s.heap)
    (hQ : ∀ h', (∀ c o, c ≠ z → c ≠ TO → c ≠ i1 → c ≠ i2 → s.heap.get? c = some o → h'.get? c = some o) → Q none { s with heap := h' }) : wpAny (model prog w) A (pyNext (.ref z)) Q E s := by
  have hT : s.TypeIs (.ref z) "zip" := ⟨_, hz, rfl⟩
  unfold pyNext
  refine wpAny_bind (wpAny_attempt (wpAny_callSpecial?_slot (A := A) (name := Str.ofString "__next__") hT F.slot_zip_next (wpAny_call_entry F.slot_zip_next hT F.entry_zip_next ?_ (F.args_zip_next_1 _))))
  refine zipS_end (A := A.in1) hh S D1 D2 hz hTI hTO st1 st2 fun h' e hk ⟨o, ho, hc⟩ => ?_
  refine wpAny_bind (wpAny_isInstance (A := A) (T := "StopIteration") (b := true) ⟨o, ho, hc⟩ isSubtype_stop ?_)
  exact wpAny_pure (hQ h' hk)
theorem go_zipS {elts : List Expr} {x1 : Nat} {pos : Pos} {T : Addr} {Q : Unit → Shared → Prop} (hz : IsZipS s.heap z TI TO (rawInt T))
    (hQ : ∀ h', IsZipS h' z TI TO .none → Heap.SameBut z s.heap h' → Q () { s with heap := h' }) : wpAny (model prog w) A (letOwnedTupleGo (.Tuple elts x1 pos) (.ref z) (.ref T)) Q E s := by
  unfold letOwnedTupleGo
  refine wpAny_bind (wpAny_load hz ?_)
  show wpAny _ _ (if (["enumerate", "zip", "dict_itemiterator", "dict_reverseitemiterator", "odict_iterator", "itertools.zip_longest", "itertools.pairwise"].contains "zip" && (#[rawInt T, .bool false, .bool true, .ref TI, .ref TO] : Array Value)[0]? == some (rawInt T)) = true then _ else _) Q E s
  rw [if_pos (by simp)]
  refine wpAny_bind (wpAny_rule ?_)
  show wpAny _ _ (setField (.ref z) 0 .none) Q E s
  exact wpAny_setField_rec (A := A) hz (by simp) fun h' q r => hQ h' q r
theorem it_zipS {f0 : Value} {Q : Value → Shared → Prop} (hz : IsZipS s.heap z TI TO f0) (h : Q (.ref z) s) : wpAny (model prog w) A (pyIter (.ref z)) Q E s := by
  have hT : s.TypeIs (.ref z) "zip" := ⟨_, hz, rfl⟩
  refine wpAny_pyIter_slot (A := A) hT F.slot_zip_iter (wpAny_call_entry F.slot_zip_iter hT F.entry_zip_iter ?_ (F.args_zip_iter_1 _))
  show wpAny _ _ (ret (.ref z)) _ _ s
  exact wpAny_pure ⟨_, rfl, "zip", _, hT, F.slot_zip_next.lookup, h⟩
end
theorem tc_zipS (a b v : Value) : checkTypeCall "zip" ⟨[a, b], [(Str.ofString "strict", v)]⟩ = pure () := by kernel_rfl
theorem nc_zipS (a b v : Value) : checkBuiltinCall "zip.__new__" ⟨[.type "zip", a, b], [(Str.ofString "strict", v)]⟩ = pure () := by kernel_rfl
theorem oi_zipS (obj a b v : Value) : argsOk "object.__init__" ⟨[obj, a, b], [(Str.ofString "strict", v)]⟩ := by unfold argsOk; kernel_rfl
abbrev gzS2 (h : Heap) (o1 o2 : Obj) : Heap := (gzO2 h o1 o2).push { cls := .type "zip", data := .fields #[.none, .bool false, .bool true, .ref ((h.push o1).push o2).objs.size, .ref (gzT2 h o1 o2).objs.size] }
theorem meets_zipS {v1 v2 : Value} {o1 o2 : Obj} {H1 H2 : Heap → Prop} (B1 : Begins v1 o1 H1) (B2 : Begins v2 o2 H2) :
    Meets (Builtin.«zip.__new__» ⟨[.type "zip", v1, v2], [(Str.ofString "strict", .bool true)]⟩) (fun _ R s => (H1 s.heap ∧ H2 s.heap) ∧ R (.ok (.ret (.ref (gzO2 s.heap o1 o2).objs.size))) { s with heap := gzS2 s.heap o1 o2 }) :=
  .of_wp fun prog w A R s h => by
    obtain ⟨hp, g, d, tk, os⟩ := s
    obtain ⟨⟨h1, h2⟩, h⟩ := h
    have hsub := sub_zip
    have e2 : (Str.ofString "strict" != ("strict" : Str)) = false := by decide +kernel
    have q1 : ∀ {A' : Around} {E : Value → Shared → Prop} {Q : Value → Shared → Prop}, Q (.ref hp.objs.size) ⟨(hp.push o1), g, d, tk, os⟩ → wpAny (model prog w) A' (pyIter v1) Q E ⟨hp, g, d, tk, os⟩ := fun q => B1.iter prog w _ _ ⟨hp, g, d, tk, os⟩ _ h1 q
    have q2 : ∀ {A' : Around} {E : Value → Shared → Prop} {Q : Value → Shared → Prop}, Q (.ref (hp.push o1).objs.size) ⟨((hp.push o1).push o2), g, d, tk, os⟩ → wpAny (model prog w) A' (pyIter v2) Q E ⟨(hp.push o1), g, d, tk, os⟩ :=
      fun q => B2.iter prog w _ _ ⟨(hp.push o1), g, d, tk, os⟩ _ (B2.keeps _ _ h2 fun b o' e => Heap.get?_push_of_some _ e) q
    wp_walk using q1, q2
    exact ⟨_, rfl, h⟩
end Br
end
section
namespace Br
open PySem PySem.Spec PyProof.Rows L2
theorem zipS_begins {prog : Program} {w : World} {A : Around} {E : Value → Shared → Prop} {s : Shared} {v1 v2 : Value} {o1 o2 : Obj} {H1 H2 : Heap → Prop} {Q : Value → Shared → Prop} (B1 : Begins v1 o1 H1) (B2 : Begins v2 o2 H2) (h1 : H1 s.heap) (h2 : H2 s.heap)
    (h : ∀ h', IsZipS h' (s.heap.objs.size + 4) (s.heap.objs.size + 2) (s.heap.objs.size + 3) .none → IsTupOf2 h' (s.heap.objs.size + 2) (.ref s.heap.objs.size) (.ref (s.heap.objs.size + 1)) → IsTupOf2 h' (s.heap.objs.size + 3) .none .none →
      h'.get? s.heap.objs.size = some o1 → h'.get? (s.heap.objs.size + 1) = some o2 → (∀ c o, s.heap.get? c = some o → h'.get? c = some o) → Q (.ref (s.heap.objs.size + 4)) { s with heap := h' }) :
    wpAny (model prog w) A (call (.type "zip") [v1, v2] [(Str.ofString "strict", .bool true)]) Q E s := by
  refine callType_newKw F.called_zip (by decide) (tc_zipS _ _ _) (nc_zipS _ _ _) (fun obj => oi_zipS obj _ _ _) F.entry_zip_new (meets_zipS B1 B2) ⟨⟨h1, h2⟩, ?_⟩
  have z1 : (s.heap.push o1).objs.size = s.heap.objs.size + 1 := Heap.size_push ..
  have z2 : ((s.heap.push o1).push o2).objs.size = s.heap.objs.size + 2 := by rw [Heap.size_push, z1]
  have z3 : (gzT2 s.heap o1 o2).objs.size = s.heap.objs.size + 3 := by rw [Heap.size_push, z2]
  have z4 : (gzO2 s.heap o1 o2).objs.size = s.heap.objs.size + 4 := by rw [Heap.size_push, z3]
  have gz : (gzS2 s.heap o1 o2).get? (gzO2 s.heap o1 o2).objs.size = some { cls := .type "zip", data := .fields #[.none, .bool false, .bool true, .ref ((s.heap.push o1).push o2).objs.size, .ref (gzT2 s.heap o1 o2).objs.size] } := Heap.get?_push_size _ rfl
  have go : (gzS2 s.heap o1 o2).get? (gzT2 s.heap o1 o2).objs.size = some { cls := .type "tuple", data := .seq #[.none, .none] } := Heap.get?_push_of_some _ (Heap.get?_push_size (gzT2 s.heap o1 o2) rfl)
  have gt : (gzS2 s.heap o1 o2).get? ((s.heap.push o1).push o2).objs.size = some { cls := .type "tuple", data := .seq #[.ref s.heap.objs.size, .ref (s.heap.push o1).objs.size] } := Heap.get?_push_of_some _ (Heap.get?_push_of_some _ (Heap.get?_push_size ((s.heap.push o1).push o2) rfl))
  have g1 : (gzS2 s.heap o1 o2).get? s.heap.objs.size = some o1 := Heap.get?_push_of_some _ (Heap.get?_push_of_some _ (Heap.get?_push_of_some _ (Heap.get?_push_of_some _ (Heap.get?_push_size s.heap B1.free))))
  have g2 : (gzS2 s.heap o1 o2).get? (s.heap.push o1).objs.size = some o2 := Heap.get?_push_of_some _ (Heap.get?_push_of_some _ (Heap.get?_push_of_some _ (Heap.get?_push_size (s.heap.push o1) B2.free)))
  rw [z4, z3, z2] at gz
  rw [z3] at go
  rw [z2, z1] at gt
  rw [z1] at g2
  show _ ∧ _
  rw [z4]
  exact ⟨⟨_, gz, rfl⟩, h _ gz gt go g1 g2 fun c o e => Heap.get?_push_of_some _ (Heap.get?_push_of_some _ (Heap.get?_push_of_some _ (Heap.get?_push_of_some _ (Heap.get?_push_of_some _ e))))⟩
/-- the turns of zip(x, the list at a, strict=True), both of one length -/
def ItS (K : PySem.W.Frag) (x : Str) (a : Addr) : It :=
  ⟨fun i H => ∃ (ys : List V), SqL K H a ys ∧ ys.length = x.cps.size ∧ i < x.cps.size,
    fun i H v H' => ∃ T c y, v = .ref T ∧ H T = none ∧ H' = upd H T (.tup [.str ⟨#[c]⟩, y]) ∧ x.cps[i]? = some c ∧ ∀ ys, SqL K H a ys → ys[i]? = some y,
    fun i H => ∃ ys : List V, SqL K H a ys ∧ ys.length = x.cps.size ∧ i = x.cps.size⟩
theorem turn_zipS {P : Program} {w : World} {K : PySem.W.Frag} {elts : List Expr} {kk : Nat} {tpos : Pos} {N : Nat} {a : Addr} {x : Str} {t : Tok} (ha : a < N) :
    Turn P w K (.Tuple elts kk tpos) (ItS K x a) [N + 4, N + 2, N + 3, N, N + 1] (N + 4) (fun i h => IsZipS h (N + 4) (N + 2) (N + 3) .none ∧ IsTupOf2 h (N + 2) (.ref N) (.ref (N + 1)) ∧ (∃ u v, IsTupOf2 h (N + 3) u v) ∧ h.IsStrIter N (strIterType x) x t i ∧ h.IsListIter (N + 1) a i) where
  mem := by simp
  obj := fun i h st c hc => by
    obtain ⟨hz, hTI, ⟨u, v, hTO⟩, h1, h2⟩ := st
    have e' : c = N + 4 ∨ c = N + 2 ∨ c = N + 3 ∨ c = N ∨ c = N + 1 := by simpa using hc
    rcases e' with q | q | q | q | q
    · rw [q]; exact ⟨_, hz, fun v q => nomatch q⟩
    · rw [q]; exact ⟨_, hTI, fun v q => nomatch q⟩
    · rw [q]; exact ⟨_, hTO, fun v q => nomatch q⟩
    · rw [q]
      obtain ⟨o1, e1, _, d1⟩ := h1
      exact ⟨o1, e1, fun v q => by rw [d1] at q; cases q⟩
    · rw [q]
      obtain ⟨o2, e2, _, d2⟩ := h2
      exact ⟨o2, e2, fun v q => by rw [d2] at q; cases q⟩
  keep := fun i h h' st k => by
    obtain ⟨hz, hTI, ⟨u, v, hTO⟩, h1, h2⟩ := st
    exact ⟨k (N + 4) (by simp) _ hz, k (N + 2) (by simp) _ hTI, ⟨u, v, k (N + 3) (by simp) _ hTO⟩, (let ⟨o, e, r⟩ := h1; ⟨o, k N (by simp) o e, r⟩), h2.at fun o q => k (N + 1) (by simp) o q⟩
  item := by
    intro X hP hw hK hc i pins s σ H E I hf st hg
    subst hP hw hK
    obtain ⟨hz, hTI, ⟨u0, v0, hTO⟩, h1, h2⟩ := st
    obtain ⟨ys, hq, hlen, hi⟩ := hg
    obtain ⟨its, rv, p, _⟩ := I.list hq
    have hil : its.toArray.size = x.cps.size := by rw [List.size_toArray, ← rv.length]; exact hlen
    have S := zip_sep2 (N := N) (fp1 := []) (fp2 := [a]) (fun b hb => by cases hb) (fun b hb => by rw [List.mem_singleton.mp hb]; exact ha)
    have D1 := Draws.text (prog := X.prog) (w := X.w) (A := X.A.in1) (I.ok.hd hc) N x t
    have D2 := Draws.list (prog := X.prog) (w := X.w) (A := X.A.in1) (I.ok.hd hc) (N + 1) a (Nat.ne_of_lt (Nat.lt_succ_of_lt ha)) its.toArray
    rw [hil] at D2
    refine py_zipS_item S D1 D2 hz hTI hTO h1 ⟨h2, p.isList⟩ hi fun x1 x2 h' tk p1 p2 z' TO' s1 s2 hT hsz hk => ?_
    refine ⟨_, rfl, go_zipS (s := { s with heap := h', toks := tk }) z' fun h'' z'' sb => ?_⟩
    obtain ⟨c, tk2, hc2, rfl⟩ := p1
    have hzl : N + 4 < s.heap.objs.size := Heap.lt_size hz
    have hT2 : h''.get? s.heap.objs.size = some { cls := .type "tuple", data := .seq #[.str ⟨#[c]⟩ tk2, x2] } := (sb.2 _ (Nat.ne_of_gt hzl)).trans hT
    have hx2 : its[i]? = some x2 := by simpa using p2
    obtain ⟨y, hy, ry⟩ : ∃ y, ys[i]? = some y ∧ RelV y x2 := by
      have hl : i < ys.length := by omega
      obtain ⟨u, hu, ru⟩ := rv.get (List.getElem?_eq_getElem hl)
      rw [hx2] at hu
      cases hu
      exact ⟨_, List.getElem?_eq_getElem hl, ru⟩
    have new : ObjOk X.prog X.w (upd H s.heap.objs.size (.tup [.str ⟨#[c]⟩, y])) h'' s.heap.objs.size (.tup [.str ⟨#[c]⟩, y]) :=
      ⟨by show 2 ≤ sizeLine; decide, [.str ⟨#[c]⟩ tk2, x2], .cons ⟨tk2, rfl⟩ (.cons ry .nil), ⟨_, hT2, rfl, _, rfl⟩⟩
    have I1 : Inv X pins σ (upd H s.heap.objs.size (.tup [.str ⟨#[c]⟩, y])) { s with heap := h'', toks := tk } :=
      I.turnedNew (t' := tk) (ch := [N + 4, N + 2, N + 3, N, N + 1]) (fun c o hb q => (sb.2 c (fun q' => hb (by simp [q']))).trans (hk c o (fun q' => hb (by simp [q'])) (fun q' => hb (by simp [q'])) (fun q' => hb (by simp [q'])) (fun q' => hb (by simp [q'])) q)) hf (Nat.le_refl _) new
    have n2 : (N + 2 : Nat) ≠ N + 4 := by omega
    have n3 : (N + 3 : Nat) ≠ N + 4 := by omega
    have n0 : (N : Nat) ≠ N + 4 := by omega
    have n1 : (N + 1 : Nat) ≠ N + 4 := by omega
    refine ⟨.ref s.heap.objs.size, _, I1, rfl, ⟨_, c, y, rfl, I.hok.fresh (Nat.le_refl _), rfl, hc2, fun l hl => by rw [I.list_inj hl hq]; exact hy⟩, ⟨z'', ?_, ⟨.str ⟨#[c]⟩ tk2, x2, ?_⟩, ?_, ?_⟩, fun c hcm => ?_⟩
    · exact (sb.2 _ n2).trans (hk _ _ n2 S.TITO S.TIi1 S.TIi2 hTI)
    · exact (sb.2 _ n3).trans TO'
    · exact (let ⟨o, e, r⟩ := s1; ⟨o, (sb.2 _ n0).trans e, r⟩)
    · exact s2.1.at fun o q => (sb.2 _ n1).trans q
    · have hlt : c < s.heap.objs.size := by
        have e' : c = N + 4 ∨ c = N + 2 ∨ c = N + 3 ∨ c = N ∨ c = N + 1 := by simpa using hcm
        have hle : (c : Nat) ≤ N + 4 := by
          rcases e' with q | q | q | q | q <;> (rw [q]; first | exact Nat.le_refl _ | exact Nat.le_add_right _ _ | exact Nat.add_le_add_left (by decide) _)
        exact Nat.lt_of_le_of_lt hle hzl
      rw [upd_ne (Nat.ne_of_lt hlt)]
      exact (hf c hcm).1
  done := by
    intro X hP hw hK hc i pins s σ H E I hf st hg
    subst hP hw hK
    obtain ⟨hz, hTI, ⟨u0, v0, hTO⟩, h1, h2⟩ := st
    obtain ⟨ys, hq, hlen, rfl⟩ := hg
    obtain ⟨its, rv, p, _⟩ := I.list hq
    have hil : its.toArray.size = x.cps.size := by rw [List.size_toArray, ← rv.length]; exact hlen
    have S := zip_sep2 (N := N) (fp1 := []) (fp2 := [a]) (fun b hb => by cases hb) (fun b hb => by rw [List.mem_singleton.mp hb]; exact ha)
    have D1 := Draws.text (prog := X.prog) (w := X.w) (A := X.A.in1) (I.ok.hd hc) N x t
    have D2 := Draws.list (prog := X.prog) (w := X.w) (A := X.A.in1) (I.ok.hd hc) (N + 1) a (Nat.ne_of_lt (Nat.lt_succ_of_lt ha)) its.toArray
    rw [hil] at D2
    exact py_zipS_end (I.ok.hd hc) S D1 D2 hz hTI hTO h1 ⟨h2, p.isList⟩ fun h' hk => ⟨rfl, I.turnedL (t' := s.toks) (ch := [N + 4, N + 2, N + 3, N, N + 1]) (fun c o hb q =>
      hk c o (fun q' => hb (by simp [q'])) (fun q' => hb (by simp [q'])) (fun q' => hb (by simp [q'])) (fun q' => hb (by simp [q'])) q) hf⟩
  self := fun A i s Q E st h => it_zipS st.1 h
theorem callWith_kwT {M : Model} {A : Around} {E : Value → Shared → Prop} {s : Shared} {pos : Pos} {T : String} {args : List (Bool × Sem Value)} {kws : List (Option Str × Sem Value)} {Q : Value → Shared → Prop}
    (h : wpAny M A (evalArgs (.type T) true args kws) (fun a s1 => wpAny M A (call (.type T) a.pos a.kw) Q E s1) E s) (hpl : args.any (·.1) = false) (hkw : kws.any (·.1.isNone) = false) : wpAny M A (callWith pos (.type T) [] args kws) Q E s := by
  unfold callWith
  refine wpAny_bind (wpAny_holding (wpAny_mono h (fun a s1 h1 => wpAny_bind (wpAny_standAt (pos := pos) ?_)) fun _ _ x => x))
  simp only [hpl, hkw, Bool.or_false]
  refine wpAny_bind (wpAny_pure ?_)
  exact wpAny_bind (wpAny_mono h1 (fun r s2 hr => wpAny_bind (wpAny_holding (wpAny_point (M := M) (wpAny_pure hr)))) fun _ _ x => x)
/-- the pairs of a text's signs and a list's items -/
def zipSD (x : Str) (ys : List D) : List D := (x.cps.toList.zip ys).map fun p => D.tup [D.str ⟨#[p.1]⟩, p.2]
theorem wk_zipS {K : PySem.W.Frag} {μ : Nat → Addr} {N : Nat} {H : Hp} {x : Str} {ds : List D} {ys : List V} {a : Addr} (q : DVs K μ N H ds ys) (s : SqF K H a ys) (hl : ds.length = x.cps.size) : WkR K μ N H (.items (zipSD x ds)) (ItS K x a) := by
  intro μ' N' H' l
  have sl : SqL K H' a ys := (l.kp.sqF s).seq
  have q' := q.lift l
  have hy : ys.length = x.cps.size := by rw [q.length]; exact hl
  have hz : (zipSD x ds).length = x.cps.size := by simp [zipSD, hl]
  refine ⟨⟨ys, sl, hy, hz⟩, fun i d hd => ?_⟩
  have hi : i < x.cps.size := by
    have := (List.getElem?_eq_some_iff.mp hd).1
    rw [hz] at this; exact this
  refine ⟨⟨ys, sl, hy, hi⟩, fun M v H2 r e ⟨T, c, y, ev, hn, eH, hc, hyy⟩ => ?_⟩
  subst ev; subst eH; subst e
  have hyi := hyy ys sl
  obtain ⟨d2, hd2, dv⟩ := q'.get' hyi
  have hdd : d = .tup [.str ⟨#[c]⟩, d2] := by
    unfold zipSD at hd
    rw [List.getElem?_map] at hd
    have e1 : (x.cps.toList.zip ds)[i]? = some (c, d2) := by
      rw [List.getElem?_zip_eq_some]
      exact ⟨by simpa using hc, hd2⟩
    rw [e1] at hd
    cases hd; rfl
  subst hdd
  exact ⟨r.fresh hn, Lift.fresh hn, dv_tup (SqT.of upd_same) (DVs.cons (dv_str) (DVs.cons (dv.lift (Lift.fresh hn)) DVs.nil))⟩
def wZipS (g : FA) : En → Mem → R Wk := fun ρ M => (g ρ M).bind fun ds M1 => match ds with
  | [.str x, .lst ys] => if ys.length = x.cps.size then .ok (.items (zipSD x ys)) M1 else .no
  | _ => .no
theorem mi_zipS {X : Cx} {W : WX} {e1 e2 : Expr} {elts : List Expr} {kk j : Nat} {p p3 kp pos tpos : Pos} {g : FA} (hg : Gl X "zip") (hm : X.mg "zip" = none) (ha : MA X W [e1, e2] g)
    (hs : starEach [e1, e2] X.env = (false, eval e1 X.env) :: starEach [e2] X.env := by rfl) (hpl : (backTo pos (starEach [e1, e2] X.env)).any (·.1) = false := by rfl)
    (hall : (backToKw pos (keywordEach [⟨some "strict", .Constant (.bool true) j p3, kp⟩] X.env)).all (·.1.isSome) = true := by rfl) (hnone : (backToKw pos (keywordEach [⟨some "strict", .Constant (.bool true) j p3, kp⟩] X.env)).any (·.1.isNone) = false := by rfl)
    (hks : (backToKw pos (keywordEach [⟨some "strict", .Constant (.bool true) j p3, kp⟩] X.env)).filterMap (·.1) = [(Str.ofString "strict")] := by rfl) :
    MI X W (.Tuple elts kk tpos) (.Call (.Name "zip" p) [e1, e2] [⟨some "strict", .Constant (.bool true) j p3, kp⟩] pos) (wZipS g) := by
  refine ⟨fun pins s σ H R I h => ?_⟩
  have h1 := tM.seq (rel := DVs X.K) h
  have hk : PK X [⟨some "strict", .Constant (.bool true) j p3, kp⟩] (tCons (L2.tC (.bl true)) tNil) := pk_cons pe_bl pk_nil
  refine wpAny_Call_Name_kw (ld_blt I hg hm PyProof.Rows.boot_zip ?_)
  refine callWith_kwT ?_ hpl hnone
  refine evalArgs_kw2 hall (thn (ha.run pos pins s σ H _ I h1) fun us s1 ⟨vs, H1, I1, r1, μ, M, ρ, ds, rl, ev, dq, a⟩ => ?_) hs
  split at a
  · rename_i x ys
    split at a
    · rename_i hl
      obtain ⟨v1, t1, ev1, q1, q2⟩ := dq.inv_cons
      obtain ⟨v2, t2, ev2, q3, q4⟩ := q2.inv_cons
      have e3 := q4.inv_nil
      subst ev1; subst ev2; subst e3
      have ex := str_dv q1
      subst ex
      obtain ⟨l, xs, el, sf, lq⟩ := lst_dv q3
      subst el
      obtain ⟨u1, u2, rfl, ⟨tk, rfl⟩, ru⟩ := vals2 r1
      cases ru
      refine thn (hk.run pos pins s1 σ H1 (fun zs H2 => zs = [.bl true] ∧ H2 = H1) I1 ⟨rfl, rfl⟩) fun ws s2 ⟨zs, H2, I2, r2, ez, eH⟩ => ?_
      subst ez; subst eH
      obtain ⟨w1, rfl, rw1⟩ := vals1 r2
      cases rw1
      rw [hks]
      have hq : SqL X.K H2 l xs := sf.seq
      obtain ⟨its, rv, p1, _⟩ := I2.list hq
      refine zipS_begins (begins_text x tk) (begins_list l its.toArray) True.intro p1.isList fun h' hz hTI hTO g1 g2 hk2 => it_zipS hz ?_
      have I3 : Inv X pins σ H2 { s2 with heap := h' } := I2.kept (t' := s2.toks) hk2
      refine ⟨s2.heap.objs.size + 4, [s2.heap.objs.size + 4, s2.heap.objs.size + 2, s2.heap.objs.size + 3, s2.heap.objs.size, s2.heap.objs.size + 1], _, ItS X.K x l, H2, rfl, I3, turn_zipS (N := s2.heap.objs.size) (t := tk) p1.lt, ⟨hz, hTI, ⟨_, _, hTO⟩, ⟨_, g1, rfl, rfl⟩, ⟨_, g2, rfl, rfl⟩⟩, fun c hcm => ?_, ?_⟩
      · have e' : c = s2.heap.objs.size + 4 ∨ c = s2.heap.objs.size + 2 ∨ c = s2.heap.objs.size + 3 ∨ c = s2.heap.objs.size ∨ c = s2.heap.objs.size + 1 := by simpa using hcm
        have hle : s2.heap.objs.size ≤ c := by
          rcases e' with z | z | z | z | z <;> (rw [z]; first | exact Nat.le_refl _ | exact Nat.le_add_right _ _)
        exact I2.fpOk hle (I2.hok.fresh hle)
      · exact a μ H2 _ (Lift.refl ..) rl (wk_zipS lq sf hl)
    · exact a.elim
  · exact a.elim
end Br
end
section
namespace Br
open PySem PySem.Spec PyProof.Rows L2
section
variable {X : Cx} {W : WX} {st : Stmt} {t : TS}
theorem PS.lock (h : PS X st t) : PS X st (fun D σ H => t { D with nx := fun σ' H' => ∃ a xs, H' a = some (.lst xs) ∧ ∀ o, D.nx σ' (upd H' a (.frz o (.lst xs))) } σ H) := by
  refine ⟨fun pins s σ H D I hw => thn (h.run pins s σ H _ I hw) fun f s1 q => ?_⟩
  cases f with
  | next =>
    obtain ⟨σ', H', I1, a, xs, e, k⟩ := q
    obtain ⟨o, J⟩ := Inv.lock I1 e
    exact ⟨σ', _, J, k o⟩
  | brk => exact q
  | cont => exact q
  | ret v => exact q
end
section
variable {X : Cx} {W : WX} {elt tg iter : Expr} {ifs : List Expr} {scope : Scope} {own : List (Str × Nat)} {pos spos py : Pos} {fw : En → Mem → R Wk} {gg : FG} {tt : FT} {te : FE} {g : TG} {i : Nat} {y : Str}
theorem ms_lcV (i : Nat) (hc : X.calm = true) (hN : X.N.Nodup) (hy : X.N[i]? = some y) (hyl : X.env.scope.names.lookup y = some .local) (hsw : swapsWith (.ListComp elt [⟨tg, iter, ifs, 0⟩] scope pos) (some (.Name y py)) spos.line X.env = pure true)
    (ok : BlkOk X.N X.env.scope scope own) (hok : OwnG X.K g gg (own.map (·.2))) (hi : MI X W tg iter fw)
    (hg : ∀ (s : Shared) (H : Hp) (C : Addr) (cl : List (Str × Addr)) (fp : List Addr), PG (X.blk s H scope (compEnvC scope cl C X.env) fp) tg g) (ht : ∀ (s : Shared) (H : Hp) (C : Addr) (cl : List (Str × Addr)) (fp : List Addr), MTs (X.blk s H scope (compEnvC scope cl C X.env) fp) WF ifs tt)
    (he : ∀ (s : Shared) (H : Hp) (C : Addr) (cl : List (Str × Addr)) (fp : List Addr), ME (X.blk s H scope (compEnvC scope cl C X.env) fp) WF elt te) (hs : ∀ x, foldedSetIterable iter X.env x = pure x := by intro _; rfl) :
    MS X W (.Assign [.Name y py] (.ListComp elt [⟨tg, iter, ifs, 0⟩] scope pos) spos) (sAsg (eLcV (own.map (·.2)) fw gg tt te) (gN i)) := by
  refine PS.weak (PS.lock (ps_setLc (i := i) (tt := tM X.K BV WF tt) (te := tM X.K (DV X.K) WF te) hc hN hy hyl hsw hi ok hg ht he hs)) fun D σ H h => ?_
  have h1 : tM X.K (DV X.K) W (eLcV (own.map (·.2)) fw gg tt te) σ H (fun v H1 => ∃ μ M ρ d, Rel X.K μ M H1 ∧ EV X.K μ M.length H1 ρ σ ∧ DV X.K μ M.length H1 d v ∧ AnsS X.K W μ M.length H1 (gN i d ρ M) D) := tSt.expr (rel := DV X.K) h
  refine lc_full hok h1 fun μ M H1 dl acc M' μ' H' accV E hdl a l r' ho hd dq => ⟨dl, accV, hd, fun o => ?_⟩
  obtain ⟨μ2, M2, ρ2, d2, r2, e2, q2, a2⟩ := a μ' _ _ (l.poke hdl (Kp.lst hd)) (r'.poke (Kp.lst hd) ho) (by
    unfold DV
    exact ⟨dl, accV, rfl, .inl ⟨o, upd_same⟩, DVs.kp (Kp.lst hd) _ _ dq⟩)
  exact a2 μ2 _ _ (Lift.refl ..) r2 (e2.set q2 i)
theorem ms_lcN (i : Nat) (hc : X.calm = true) (hN : X.N.Nodup) (hy : X.N[i]? = some y) (hyl : X.env.scope.names.lookup y = some .local) (hsw : swapsWith (.ListComp elt [⟨tg, iter, ifs, 0⟩] scope pos) (some (.Name y py)) spos.line X.env = pure true)
    (ok : BlkOk X.N X.env.scope scope own) (hok : OwnG X.K g gg (own.map (·.2))) (hi : MI X W tg iter fw)
    (hg : ∀ (s : Shared) (H : Hp) (C : Addr) (cl : List (Str × Addr)) (fp : List Addr), PG (X.blk s H scope (compEnvC scope cl C X.env) fp) tg g) (ht : ∀ (s : Shared) (H : Hp) (C : Addr) (cl : List (Str × Addr)) (fp : List Addr), MTs (X.blk s H scope (compEnvC scope cl C X.env) fp) WF ifs tt)
    (he : ∀ (s : Shared) (H : Hp) (C : Addr) (cl : List (Str × Addr)) (fp : List Addr), ME (X.blk s H scope (compEnvC scope cl C X.env) fp) WF elt te) (hs : ∀ x, foldedSetIterable iter X.env x = pure x := by intro _; rfl) :
    MS X W (.Assign [.Name y py] (.ListComp elt [⟨tg, iter, ifs, 0⟩] scope pos) spos) (sAsg (eLcN (own.map (·.2)) fw gg tt te) (gN i)) := by
  refine PS.weak (ps_setLc (i := i) (tt := tM X.K BV WF tt) (te := tM X.K (DV X.K) WF te) hc hN hy hyl hsw hi ok hg ht he hs) fun D σ H h => ?_
  have h1 : tM X.K (DV X.K) W (eLcN (own.map (·.2)) fw gg tt te) σ H (fun v H1 => ∃ μ M ρ d, Rel X.K μ M H1 ∧ EV X.K μ M.length H1 ρ σ ∧ DV X.K μ M.length H1 d v ∧ AnsS X.K W μ M.length H1 (gN i d ρ M) D) := tSt.expr (rel := DV X.K) h
  refine lc_full hok h1 fun μ M H1 dl acc M' μ' H' accV E hdl a l r' ho hd dq => ?_
  obtain ⟨μ2, M2, ρ2, d2, r2, e2, q2, a2⟩ := a (ext μ' M'.length dl) H' (.ref dl) (l.adopt hdl) (r'.adopt ho hd dq) (by
    unfold DV
    exact ⟨by simp, congrArg V.ref (if_pos rfl : ext μ' M'.length dl M'.length = dl).symm⟩)
  exact a2 μ2 _ _ (Lift.refl ..) r2 (e2.set q2 i)
end
/-! ### list(x) that nobody writes -/
def gLstV : FL := fun ds M => match ds with
  | [d] => (match seqA M d with
    | some xs => .ok (.lst xs) M
    | none => .no)
  | _ => .no
theorem me_listV {X : Cx} {W : WX} {e : Expr} {es : List Expr} {p pos : Pos} {g : FA} (hg : Gl X "list") (hm : X.mg "list" = none) (ha : MA X W (e :: es) g)
    (he : starEach (e :: es) X.env = (false, eval e X.env) :: starEach es X.env := by rfl) (hpl : (backTo pos (starEach es X.env)).any (·.1) = false := by rfl) : ME X W (.Call (.Name "list" p) (e :: es) [] pos) (eL gLstV g) := by
  refine PE.weak (PE.lock (pe_callTy call_list_of hg hm (by decide +kernel) ha (by decide) (by decide) he hpl)) fun σ H Q hw => ?_
  refine tM.mono (fun v H1 ⟨μ, M, ρ, d, r, e, q, a1⟩ => ?_) (tM.seq (rel := DVs X.K) hw)
  unfold gLstV at a1
  split at a1
  · split at a1
    · rename_i ds hd
      obtain ⟨v, r', e, q1, q2⟩ := q.inv_cons
      obtain ⟨a, xs, ev, sq, dq⟩ := seqA_ok r q1 hd
      rw [e, q2.inv_nil, ev]
      exact ⟨a, xs, rfl, sq, fun p hp => ⟨p, xs, rfl, upd_same, fun o => ans_lst r dq a1 p hp o⟩⟩
    · exact a1.elim
  · exact a1.elim
/-! ### a, b = a tuple or a list -/
def gTpA (n : Nat) (gs : List D → FStm) : FG := fun d ρ M => match seqA M d with
  | some ds => if ds.length = n then gs ds ρ M else .no
  | none => .no
theorem mg_tupA {X : Cx} {W : WX} {ts : List Expr} {gs : List D → FStm} {pos : Pos} {n k : Nat} (hc : X.calm = true) (h : MGs X W ts gs) (hn : (assignEach ts X.env).length = n := by rfl) (hst : (assignEach ts X.env).findIdx? (·.1) = none := by rfl) : MG X W (.Tuple ts k pos) (gTpA n gs) := by
  refine ⟨fun pins s σ H v u Q I rv ⟨μ, M, ρ, d, r, e, q, a⟩ => ?_⟩
  unfold gTpA at a
  split at a
  · split at a
    · rename_i ds hd hl
      obtain ⟨p, xs, ev, sq, dq⟩ := seqA_ok r q hd
      rcases sq with sq | sq
      · refine (pg_unl hc h hn hst).run pins s σ H v u Q I rv ⟨p, xs, ev, sq, by rw [dq.length]; exact hl, μ, M, ρ, ds, r, e, dq, a⟩
      · refine (pg_tup hc h hn hst).run pins s σ H v u Q I rv ⟨p, xs, ev, sq, by rw [dq.length]; exact hl, μ, M, ρ, ds, r, e, dq, a⟩
    · exact a.elim
  · exact a.elim
/-! ### a def that calls itself -/
theorem FnM.none {P : Program} {w : World} {K : PySem.W.Frag} {mg : Str → Option Value} {base : Heap} {k : Nat} {f : Addr} {fd : FuncData} {x qual : Str} {params : Arguments} {body : List Stmt} {scope : Scope} {dvs : List V} {kws : List (Str × V)} {N ps : List Str}
    (F : FunD K x qual params body scope dvs kws f fd) (S : FnScope N ps scope) : FnM P w K mg base (k + 1) f fd ps (fun _ _ => .no) :=
  fnM_of (b := fun _ _ => SR.no) F S fun _ _ _ _ _ _ _ _ => ⟨fun _ _ _ _ _ _ ⟨_, _, _, _, _, a⟩ => a.elim⟩
end Br
end
section
namespace Br
open PySem PySem.Spec PyProof.Rows L2
theorem tab_at {fa : List He.Fa} {fn : List He.DefD} {ts : List He.Tab} {w : World} {K : PySem.W.Frag} (c : He.SaysT fa fn ts w K) (i : Nat) {t : He.Tab} (h : ts[i]? = some t) : He.dicW K (t.1 K) = some (He.keysIn w.params t.2) := by
  have e : ts.map (fun t => He.dicW K (t.1 K)) = ts.map fun t => some (He.keysIn w.params t.2) := congrArg (fun z : He.AlT => z.2) c
  have e2 := congrArg (fun l => l[i]?) e
  simp only [List.getElem?_map, h, Option.map_some] at e2
  exact Option.some.inj e2
end Br
end
section
namespace Br
open PySem PySem.Spec PyProof.Rows
/-! ### data without references, bounded -/
theorem shown_int {i : Int} {B : Nat} (h : i.natAbs < 10 ^ B) (hB : 0 < B) : (PyData.shown (.int i)).length ≤ B + 1 := by
  have e := int_text_length_le10 hB h
  show (Str.ofString (toString i)).length ≤ B + 1
  rw [PySem.ofString_length]
  exact e
mutual
def okD (B : Nat) : D → Bool
  | .non => true
  | .bl _ => true
  | .int i => decide (i.natAbs < 10 ^ B)
  | .str x => PyData.strOk x
  | .tup xs => okDs B xs
  | .lst xs => okDs B xs
  | .ref _ => false
  | .gl _ => false
  | .ty _ => false
  | .ptp _ => false
  | .exc _ _ _ => false
  | .adr _ _ => false
def okDs (B : Nat) : List D → Bool
  | [] => true
  | x :: xs => okD B x && okDs B xs
end
mutual
def dpD : D → Nat
  | .tup xs => dpDs xs + 1
  | .lst xs => dpDs xs + 1
  | _ => 0
def dpDs : List D → Nat
  | [] => 0
  | x :: xs => max (dpD x) (dpDs xs)
end
mutual
def wtD : D → Nat
  | .str x => x.cps.size
  | .int _ => 200
  | .tup xs => wtDs xs
  | .lst xs => wtDs xs
  | _ => 0
def wtDs : List D → Nat
  | [] => 0
  | x :: xs => wtD x + 1 + wtDs xs
end
theorem log_lt {n : Nat} (h : n < 10 ^ 50) : n.log2 < 170 := by
  by_cases h0 : n = 0
  · subst h0; decide
  · exact (Nat.log2_lt h0).mpr (Nat.lt_trans h (by decide))
/-- what is known of the data of such a value -/
structure PyOk (d : D) (p : PyData) : Prop where
  py : toPyR (fun _ => none) d = some p
  lay : p.canLay0 = true
  short : p.leavesShort 64 = true
  shown : p.showable = true
  dep : p.depth = dpD d
  wt : p.weight ≤ wtD d
structure PysOk (ds : List D) (ps : List PyData) : Prop where
  py : toPysR (fun _ => none) ds = some ps
  lay : PyData.canLayAll0 ps = true
  short : PyData.leavesShortAll 64 ps = true
  shown : PyData.showableAll ps = true
  dep : PyData.depthAll ps = dpDs ds
  wt : PyData.weightAll ps ≤ wtDs ds
mutual
theorem okD_py {B : Nat} (h0 : 0 < B) (hB : B ≤ 50) : ∀ d : D, okD B d = true → ∃ p, PyOk d p
  | .non, _ => ⟨.none, rfl, rfl, rfl, rfl, rfl, Nat.le_refl _⟩
  | .bl b, _ => ⟨.bool b, rfl, rfl, rfl, rfl, rfl, Nat.le_refl _⟩
  | .int i, h => by
    have h1 : i.natAbs < 10 ^ B := by simpa [okD] using h
    have h2 : i.natAbs < 10 ^ 50 := Nat.lt_of_lt_of_le h1 (Nat.pow_le_pow_right (by decide) hB)
    have h3 := log_lt h2
    have h4 := shown_int h1 h0
    refine ⟨.int i, rfl, rfl, ?_, ?_, rfl, ?_⟩
    · show decide ((PyData.shown (.int i)).length ≤ 64) = true
      exact decide_eq_true (by omega)
    · show decide (i.natAbs.log2 < 1920) = true
      exact decide_eq_true (by omega)
    · show (if i == 0 then 0 else i.natAbs.log2 + 1) ≤ 200
      split <;> omega
  | .str x, h => by
    have h1 : PyData.strOk x = true := by simpa [okD] using h
    refine ⟨.str x, rfl, ?_, ?_, rfl, rfl, Nat.le_refl _⟩
    · show PyData.strOk x = true
      exact h1
    · show (x.cps.toList.all fun c => decide (c < 16 ^ 8)) = true
      unfold PyData.strOk at h1
      rw [← Array.all_toList] at h1
      refine List.all_eq_true.mpr fun c hc => ?_
      have := List.all_eq_true.mp h1 c hc
      have h3 : c < 0x110000 := of_decide_eq_true this
      exact decide_eq_true (Nat.lt_trans h3 (by decide))
  | .tup xs, h => by
    obtain ⟨ps, q⟩ := okDs_py h0 hB xs (by simpa [okD] using h)
    refine ⟨.tuple ps, ?_, ?_, ?_, ?_, ?_, ?_⟩
    · unfold toPyR; rw [q.py]; rfl
    · simpa [PyData.canLay0] using q.lay
    · simpa [PyData.leavesShort] using q.short
    · simpa [PyData.showable] using q.shown
    · simp only [PyData.depth, dpD, q.dep]
    · simpa [PyData.weight, wtD] using q.wt
  | .lst xs, h => by
    obtain ⟨ps, q⟩ := okDs_py h0 hB xs (by simpa [okD] using h)
    refine ⟨.list ps, ?_, ?_, ?_, ?_, ?_, ?_⟩
    · unfold toPyR; rw [q.py]; rfl
    · simpa [PyData.canLay0] using q.lay
    · simpa [PyData.leavesShort] using q.short
    · simpa [PyData.showable] using q.shown
    · simp only [PyData.depth, dpD, q.dep]
    · simpa [PyData.weight, wtD] using q.wt
  | .ref _, h => by simp [okD] at h
  | .gl _, h => by simp [okD] at h
  | .ty _, h => by simp [okD] at h
  | .ptp _, h => by simp [okD] at h
  | .exc _ _ _, h => by simp [okD] at h
  | .adr _ _, h => by simp [okD] at h
theorem okDs_py {B : Nat} (h0 : 0 < B) (hB : B ≤ 50) : ∀ ds : List D, okDs B ds = true → ∃ ps, PysOk ds ps
  | [], _ => ⟨[], rfl, rfl, rfl, rfl, rfl, Nat.le_refl _⟩
  | x :: xs, h => by
    have h' : okD B x = true ∧ okDs B xs = true := by simpa [okDs] using h
    obtain ⟨p, q⟩ := okD_py h0 hB x h'.1
    obtain ⟨ps, qs⟩ := okDs_py h0 hB xs h'.2
    refine ⟨p :: ps, ?_, ?_, ?_, ?_, ?_, ?_⟩
    · unfold toPysR; rw [q.py, qs.py]; rfl
    · simp only [PyData.canLayAll0, q.lay, qs.lay, Bool.and_self]
    · simp only [PyData.leavesShortAll, q.short, qs.short, Bool.and_self]
    · simp only [PyData.showableAll, q.shown, qs.shown, Bool.and_self]
    · simp only [PyData.depthAll, dpDs, q.dep, qs.dep]
    · have a := q.wt
      have b := qs.wt
      simp only [PyData.weightAll, wtDs]; omega
end
theorem toPy_ok' {d : D} {p : PyData} (h : PyOk d p) (M : Mem) : toPy M d = some p := toPyR_mono _ _ _ h.py
theorem shaped_ok {d : D} {p : PyData} (h : PyOk d p) (hd : dpD d ≤ 64) : SeqAt.shaped p = true := by
  unfold SeqAt.shaped
  rw [h.lay, h.dep]
  simpa using hd
theorem repr_okD {B : Nat} {d : D} (h0 : 0 < B) (hB : B ≤ 50) (h : okD B d = true) (hd : dpD d ≤ 64) (hw : wtD d ≤ 200000) (M : Mem) : ∃ z, gRepr [d] M = .ok (.str z) M := by
  obtain ⟨p, q⟩ := okD_py h0 hB d h
  have h1 := PyData.shown_le 64 (by decide) p q.short
  have h2 := PyData.hasDict_of_canLay p q.lay
  have h3 := q.wt
  refine ⟨p.shown, ?_⟩
  unfold gRepr
  dsimp only
  rw [toPy_ok' q]
  dsimp only
  rw [if_pos]
  simp only [q.shown, h2, q.dep, Bool.not_false, Bool.and_self, Bool.true_and, Bool.and_eq_true, decide_eq_true_eq]
  refine ⟨hd, ?_⟩
  rw [sizeLine_eq]
  omega
end Br
end
section
namespace Br
open PySem PySem.Spec PyProof.Rows L2
/-! ### calls of any shape -/
abbrev FCal := List D → List D → Mem → R D
/-- a callee gives what G gives: values by place, values of the keywords ks -/
structure CalM (X : Cx) (W : WX) (f : Value) (ks : List Str) (G : FCal) : Prop where
  run : ∀ (pins : List (Addr × Obj)) (σ : L2.St) (H : Hp) (s : Shared) (Q : VK) (us ws : List Value) (vs zs : List V) (μ : Nat → Addr) (M : Mem) (ds es : List D), Inv X pins σ H s → Vals vs us → Vals zs ws → Rel X.K μ M H → DVs X.K μ M.length H ds vs → DVs X.K μ M.length H es zs →
    Ans X.K (DV X.K) (fun c d H' => W c d σ H') μ M.length H (G ds es M) Q → wpAny (model X.prog X.w) X.A (call f us (ks.zip ws)) (EP X pins σ Q) X.xe s
def gC (n m' : Nat) (gD : List D → List D → List D) (m : FL) : FCal := fun ds es M => if ds.length = n ∧ es.length = m' then m (gD ds es) M else .no
section
variable {X : Cx} {W : WX} {k n : Nat} {f C : Addr} {fd : FuncData} {ps ks : List Str} {m : FL} {gD : List D → List D → List D}
theorem cal_fn (F : FnM X.prog X.w X.K X.mg X.base k f fd ps m) (hab : AB X.prog X.w X.K X.mg X.base fd ps n ks gD) (hr : Room k X.A) (hg : X.A.guards = some []) (tk : L2N.Takes X W) : CalM X W (.ref f) ks (gC n ks.length gD m) := by
  refine ⟨fun pins σ H s Q us ws vs zs μ M ds es I rv rz r q qz a => ?_⟩
  unfold gC at a
  split at a
  · rename_i hl
    exact run_m F hab hr hg tk I rv rz r q qz hl.1 hl.2 a
  · exact a.elim
/-- a def with a star: any number of values -/
def gCs (p m' : Nat) (gD : List D → List D → List D) (m : FL) : FCal := fun ds es M => if (p ≤ ds.length ∧ ds.length ≤ 1000) ∧ es.length = m' then m (gD ds es) M else .no
theorem cal_fs (F : FnM X.prog X.w X.K X.mg X.base k f fd ps m) {p : Nat} (hab : ∀ n, p ≤ n → n ≤ 1000 → AB X.prog X.w X.K X.mg X.base fd ps n ks gD) (hr : Room k X.A) (hg : X.A.guards = some []) (tk : L2N.Takes X W) : CalM X W (.ref f) ks (gCs p ks.length gD m) := by
  refine ⟨fun pins σ H s Q us ws vs zs μ M ds es I rv rz r q qz a => ?_⟩
  unfold gCs at a
  split at a
  · rename_i hl
    exact run_m F (hab _ hl.1.1 hl.1.2) hr hg tk I rv rz r q qz rfl hl.2 a
  · exact a.elim
/-! ### a new instance -/
def mkR (n : Nat) (r : R D) : R D := match r with
  | .ok .non M => .ok (.ref n) M
  | .ok _ _ => .no
  | .ex e M => .ex e M
  | .no => .no
/-- class c, made by its __init__, that is G -/
def gMk (c : Str) (G : FCal) : FCal := fun ds es M => mkR M.length (G (.ref M.length :: ds) es (M ++ [.ins c []]))
theorem under_guards {A : Around} {C : Addr} {us : List Value} {kw : List (Str × Value)} : (A.under (.builtin "type.__call__" ⟨.ref C :: us, kw⟩)).guards = A.guards := by
  first | rfl | simp [Around.under, Code.weight, Code.isCreation, Code.isGuard, Code.isCaller, Code.frames, Code.isFrame, guardIds]
theorem ans_mk {K : PySem.W.Frag} {W : W0} {μ1 : Nat → Addr} {N1 n : Nat} {H1 : Hp} {r : R D} {Q : VK} {x : Addr} (hx : μ1 n = x) (hn : n < N1) (a : Ans K (DV K) W μ1 N1 H1 (mkR n r) Q) : Ans K (DV K) W μ1 N1 H1 r (fun v H' => v = .non ∧ Q (.ref x) H') := by
  cases r with
  | ok d M =>
    cases d with
    | non =>
      intro μ' H' v l r' q
      unfold DV at q
      refine ⟨q, a μ' H' (.ref x) l r' ?_⟩
      unfold DV
      exact ⟨Nat.lt_of_lt_of_le hn l.le, by rw [l.same n hn, hx]⟩
    | _ => exact a.elim
  | ex e M => exact a
  | no => exact a
theorem run_mk {pins : List (Addr × Obj)} {σ : L2.St} {H : Hp} {s : Shared} {Q : VK} {us ws : List Value} {vs zs : List V} {μ : Nat → Addr} {M : Mem} {ds es : List D} {c : Str} (Mk_ : Mk X.K (He.ga X.K c) f) (F : FnM X.prog X.w X.K X.mg X.base k f fd ps m)
    (hab : AB X.prog X.w X.K X.mg X.base fd ps (n + 1) ks gD) (hr : Room (k + 1) X.A) (hg : X.A.guards = some []) (tk : L2N.Takes X W) (I : Inv X pins σ H s) (rv : Vals vs us) (rz : Vals zs ws) (r : Rel X.K μ M H) (q : DVs X.K μ M.length H ds vs) (qz : DVs X.K μ M.length H es zs) (l1 : ds.length = n) (l2 : es.length = ks.length)
    (a : Ans X.K (DV X.K) (fun c d H' => W c d σ H') μ M.length H (mkR M.length (m (gD (.ref M.length :: ds) es) (M ++ [.ins c []]))) Q) : wpAny (model X.prog X.w) X.A (call (.ref (He.ga X.K c)) us (ks.zip ws)) (EP X pins σ Q) X.xe s := by
  have I2 := Inv.made (C := He.ga X.K c) I
  have h1 : H s.heap.objs.size = none := I.hok.fresh (Nat.le_refl _)
  have h2 : H (s.heap.objs.size + 1) = none := I.hok.fresh (Nat.le_succ _)
  have h3 : upd H s.heap.objs.size (.own (s.heap.objs.size + 1)) (s.heap.objs.size + 1) = none := by rw [upd_ne (Nat.ne_of_gt (Nat.lt_succ_self _))]; exact h2
  have rA : Rel X.K μ M (upd H s.heap.objs.size (.own (s.heap.objs.size + 1))) := r.fresh h1
  have lA : Lift μ M.length H μ M.length (upd H s.heap.objs.size (.own (s.heap.objs.size + 1))) := Lift.fresh h1
  have lB : Lift μ M.length (upd H s.heap.objs.size (.own (s.heap.objs.size + 1))) (ext μ M.length (s.heap.objs.size + 1)) (M ++ [MO.ins c []]).length (upd (upd H s.heap.objs.size (.own (s.heap.objs.size + 1))) (s.heap.objs.size + 1) (.ins (He.ga X.K c) s.heap.objs.size [])) := Lift.alloc h3
  have rB := rA.alloc (o := .ins (He.ga X.K c) s.heap.objs.size []) (m := .ins c []) h3 ⟨s.heap.objs.size, [], upd_same, rfl⟩
  have l := lA.trans lB
  have e1 : ext μ M.length (s.heap.objs.size + 1) M.length = s.heap.objs.size + 1 := if_pos rfl
  have q1 : DVs X.K (ext μ M.length (s.heap.objs.size + 1)) (M ++ [MO.ins c []]).length _ (.ref M.length :: ds) (V.ref (s.heap.objs.size + 1) :: vs) := DVs.cons (by unfold DV; exact ⟨by simp, by rw [e1]⟩) (q.lift l)
  have a2 := ans_mk (x := s.heap.objs.size + 1) e1 (by simp) (Ans.rebase l a)
  have r1 : Vals (V.ref (s.heap.objs.size + 1) :: vs) (Value.ref (s.heap.objs.size + 1) :: us) := .cons rfl rv
  have hb := hab.bnd _ X.stack _ _ (fun c d H' => W c d σ H') (Value.ref (s.heap.objs.size + 1) :: us) ws (V.ref (s.heap.objs.size + 1) :: vs) zs _ _ _ es (I2.env0.make (He.ga X.K c) us (ks.zip ws)) (by rw [List.length_cons, ← rv.length, q.length, l1]) (by rw [← rz.length, qz.length, l2]) r1 rz rB q1 (qz.lift l)
  refine wpAny_call (make_map (f := f) I.kIn Mk_.makes Mk_.init (beq_iff_eq.mp Mk_.fn) (codeAny_mono (F.run _ X.stack _ _ ⟨Value.ref (s.heap.objs.size + 1) :: us, ks.zip ws⟩ _ _ _ (hr.make _ us (ks.zip ws)) (under_guards.trans hg)
    (I2.env0.make _ us (ks.zip ws)) hb fun v H2 ⟨r2, l', q2⟩ => ⟨_, _, _, r2, q2, Ans.rebase l' a2⟩) fun r s' hq' => ?_))
  cases r with
  | error e => exact tk e s' (L2N.XE.of_call I2 (fun _ _ _ z => z) hq')
  | ok fl =>
    cases fl with
    | ret u =>
      obtain ⟨v, H', I3, rv, ev, q3⟩ := I2.after hq'
      subst ev
      exact ⟨rv, ⟨V.ref (s.heap.objs.size + 1), H', I3, rfl, q3⟩⟩
    | next => exact False.elim hq'
    | brk => exact False.elim hq'
    | cont => exact False.elim hq'
theorem cal_mk {c : Str} (Mk_ : Mk X.K (He.ga X.K c) f) (F : FnM X.prog X.w X.K X.mg X.base k f fd ps m) (hab : AB X.prog X.w X.K X.mg X.base fd ps (n + 1) ks gD) (hr : Room (k + 1) X.A) (hg : X.A.guards = some []) (tk : L2N.Takes X W) :
    CalM X W (.ref (He.ga X.K c)) ks (gMk c (gC (n + 1) ks.length gD m)) := by
  refine ⟨fun pins σ H s Q us ws vs zs μ M ds es I rv rz r q qz a => ?_⟩
  unfold gMk gC at a
  split at a
  · rename_i hl
    exact run_mk Mk_ F hab hr hg tk I rv rz r q qz (by simpa using hl.1) hl.2 a
  · exact a.elim
theorem cal_mks {c : Str} (Mk_ : Mk X.K (He.ga X.K c) f) (F : FnM X.prog X.w X.K X.mg X.base k f fd ps m) {p : Nat} (hab : ∀ n, p ≤ n → n ≤ 1000 → AB X.prog X.w X.K X.mg X.base fd ps n ks gD) (hr : Room (k + 1) X.A) (hg : X.A.guards = some []) (tk : L2N.Takes X W) :
    CalM X W (.ref (He.ga X.K c)) ks (gMk c (gCs p ks.length gD m)) := by
  refine ⟨fun pins σ H s Q us ws vs zs μ M ds es I rv rz r q qz a => ?_⟩
  unfold gMk gCs at a
  split at a
  · rename_i hl
    exact run_mk Mk_ F (hab _ hl.1.1 hl.1.2) hr hg tk I rv rz r q qz rfl hl.2 a
  · exact a.elim
end
/-! ### the call's node -/
section
variable {M : Model} {A : Around} {E : Value → Shared → Prop} {s : Shared}
theorem cw_any {f : Value} {first : List Value} {pos : Pos} {Q : Value → Shared → Prop} {P : Heap → Prop} {args : List (Bool × Sem Value)} {kws : List (Option Str × Sem Value)}
    (hk : ∀ h, P h → ∃ k, (k = Keeper.frame ∨ k = Keeper.machine ∨ k = Keeper.boundFrame) ∧ PySem.W.Looks M h (keeperOf f) k)
    (h : wpAny M A (evalArgs f true args kws) (fun a s₁ => P s₁.heap ∧ wpAny M A (call f (first ++ a.pos) a.kw) Q E s₁) E s) : wpAny M A (callWith pos f first args kws) Q E s := by
  unfold callWith
  refine wpAny_bind (wpAny_holding (wpAny_mono h (fun a s₁ h₁ => wpAny_bind (wpAny_standAt ?_)) fun _ _ x => x))
  obtain ⟨k, hk', L⟩ := hk _ h₁.1
  refine wpAny_bind (L.here ?_)
  have tail : ∀ {t : Sem Value}, wpAny M A t Q E s₁ → wpAny M A (t >>= fun r => holding [r] point >>= fun _ => pure r) Q E s₁ :=
    fun ht => wpAny_bind (wpAny_mono ht (fun r s₂ hr => wpAny_bind (wpAny_holding (wpAny_point (wpAny_pure hr)))) fun _ _ x => x)
  have marked (mk : Value) : wpAny M A (callMarked mk f (first ++ a.pos) a.kw) Q E s₁ := by unfold callMarked; exact Calls.wpAny_keep h₁.2
  cases hst : (args.any (·.1) || kws.any (·.1.isNone)) <;> rcases hk' with rfl | rfl | rfl <;> dsimp only <;>
    first | exact tail (marked _) | exact tail (wpAny_operating h₁.2) | exact tail h₁.2 | (split <;> first | exact tail h₁.2 | exact tail (marked _))
def lone : List (Bool × Sem Value) → Bool
  | [(true, _)] => true
  | _ => false
theorem ea_gen {f : Value} {args : List (Bool × Sem Value)} {kws : List (Option Str × Sem Value)} {Q : Args → Shared → Prop} (hl : lone args = false) (hall : kws.all (·.1.isSome) = true)
    (h : wpAny M A (spliced args) (fun vs s₁ => wpAny M A (evalAll (kws.map (·.2))) (fun ks s₂ => Q ⟨vs, (kws.filterMap (·.1)).zip ks⟩ s₂) E s₁) E s) : wpAny M A (evalArgs f true args kws) Q E s := by
  unfold evalArgs
  match args, hl, h with
  | [], _, h =>
    show wpAny M A (spliced [] >>= _) Q E s
    refine wpAny_bind (wpAny_mono h (fun vs s₁ h₁ => ?_) fun _ _ x => x)
    first | refine wpAny_holding ?_ | refine wpAny_bind (wpAny_pure (wpAny_holding ?_))
    simp only [hall, if_true]
    refine wpAny_bind (wpAny_mono h₁ (fun ks s₂ h₂ => ?_) fun _ _ x => x)
    exact wpAny_bind (wpAny_pure (wpAny_pure h₂))
  | (false, x) :: rest, _, h =>
    show wpAny M A (spliced ((false, x) :: rest) >>= _) Q E s
    refine wpAny_bind (wpAny_mono h (fun vs s₁ h₁ => ?_) fun _ _ x => x)
    first | refine wpAny_holding ?_ | refine wpAny_bind (wpAny_pure (wpAny_holding ?_))
    simp only [hall, if_true]
    refine wpAny_bind (wpAny_mono h₁ (fun ks s₂ h₂ => ?_) fun _ _ x => x)
    exact wpAny_bind (wpAny_pure (wpAny_pure h₂))
  | (true, x) :: y :: rest, _, h =>
    show wpAny M A (spliced ((true, x) :: y :: rest) >>= _) Q E s
    refine wpAny_bind (wpAny_mono h (fun vs s₁ h₁ => ?_) fun _ _ x => x)
    first | refine wpAny_holding ?_ | refine wpAny_bind (wpAny_pure (wpAny_holding ?_))
    simp only [hall, if_true]
    refine wpAny_bind (wpAny_mono h₁ (fun ks s₂ h₂ => ?_) fun _ _ x => x)
    exact wpAny_bind (wpAny_pure (wpAny_pure h₂))
theorem ea_lone {f : Value} {x : Sem Value} {pos : Pos} {kws : List (Option Str × Sem Value)} {Q : Args → Shared → Prop} (hall : kws.all (·.1.isSome) = true)
    (h : wpAny M A x (fun v s₁ => wpAny M A (evalAll (kws.map (·.2))) (fun ks s₂ => PySem.W.StarOf M A E v (fun vs s₃ => Q ⟨vs, (kws.filterMap (·.1)).zip ks⟩ s₃) s₂) E s₁) E s) :
    wpAny M A (evalArgs f true [(true, (do let v ← x; standAt pos; pure v))] kws) Q E s := by
  unfold evalArgs
  first
    | refine wpAny_bind (wpAny_bind (wpAny_mono h (fun v s₁ h₁ => wpAny_bind (wpAny_standAt (wpAny_pure ?_))) fun _ _ x => x))
    | refine wpAny_bind (wpAny_bind (wpAny_bind (wpAny_mono h (fun v s₁ h₁ => wpAny_bind (wpAny_standAt (wpAny_pure (wpAny_pure ?_)))) fun _ _ x => x)))
  refine wpAny_holding ?_
  simp only [hall, if_true]
  refine wpAny_bind (wpAny_mono h₁ (fun ks s₂ h₂ => ?_) fun _ _ x => x)
  unfold PySem.W.StarOf at h₂
  refine wpAny_bind (wpAny_bind (wpAny_mono h₂ (fun b s₃ h₃ => ?_) fun _ _ x => x))
  obtain ⟨rfl, h₃⟩ := h₃
  have z := wpAny_holding (vs := ((kws.filterMap (·.1)).zip ks).map (·.2)) (wpAny_mono h₃ (fun vs s₃ h₃ => (wpAny_pure h₃ : wpAny M A (pure (⟨vs, (kws.filterMap (·.1)).zip ks⟩ : Args)) Q E s₃)) fun _ _ x => x)
  try simp only [Bool.false_eq_true, if_false]
  first
    | exact wpAny_bind (wpAny_mono z (fun _ _ y => y) fun _ _ y => y)
    | exact z
    | exact wpAny_bind (wpAny_pure z)
    | skip
end
end Br
end
section
namespace Br
open PySem PySem.Spec PyProof.Rows L2
/-! ### calls as expressions -/
def eCal (G : FCal) (g g' : FA) : FE := fun ρ M => (g ρ M).bind fun ds M1 => (g' ρ M1).bind fun es M2 => G ds es M2
/-- f(*y, k = v) -/
def eCalS (G : FCal) (a : FE) (g' : FA) : FE := fun ρ M => (a ρ M).bind fun d M1 => (g' ρ M1).bind fun es M2 => match seqA M2 d with
  | some xs => G xs es M2
  | none => .no
def aS (f : FE) (g : FA) : FA := fun ρ M => (f ρ M).bind fun d M1 => match seqA M1 d with
  | some xs => (g ρ M1).bind fun ys M2 => .ok (xs ++ ys) M2
  | none => .no
section
variable {X : Cx} {W : WX} {e o : Expr} {es : List Expr} {kws : List Keyword} {fo fe : FE} {g g' : FA} {f : Value} {ks : List Str} {G : FCal} {x m : Str} {p pos apos : Pos}
theorem ma_star (ha : ME X W e fe) (hr : MA X W es g) (hs : starEach (.Starred e p :: es) X.env = (true, eval e X.env) :: starEach es X.env := by rfl) : MA X W (.Starred e p :: es) (aS fe g) := by
  refine PA.weak (StX.pa_star ha hr hs) fun σ H Q h => ?_
  refine tM.mono (fun v H1 ⟨μ, M, ρ, d, r, e, q, a1⟩ => ?_) (tM.seq (rel := DV X.K) h)
  split at a1
  · rename_i xs hx
    obtain ⟨a, ys, ev, sq, dq⟩ := seqA_ok r q hx
    have a2 := Ans.bind (rel := DVs X.K) a1
    refine ⟨a, ys, ev, sq.symm, μ, M, ρ, r, e, a2.mono (fun u H2 ⟨μ1, M1, d1, l, r1, q1, a3⟩ => ?_) fun _ _ _ z => z⟩
    exact a3 μ1 H2 _ (Lift.refl ..) r1 (DVs.append (dq.lift l) q1)
  · exact a1.elim
theorem me_cal (c : CalM X W f ks G) (hk : PySem.W.keepIn X.K f = true) (hg : Gl X x) (hm : X.mg x = some f) (ha : MA X W es g) (hkw : MK X W kws g')
    (hall : (backToKw pos (keywordEach kws X.env)).all (·.1.isSome) = true := by rfl) (hks : (backToKw pos (keywordEach kws X.env)).filterMap (·.1) = ks := by rfl)
    (hdb : (x == ("__debug__" : Str)) = false := by decide) (hl : lone (backTo pos (starEach es X.env)) = false := by rfl) : ME X W (.Call (.Name x p) es kws pos) (eCal G g g') := by
  refine ⟨fun pins s σ H Q I h => ?_⟩
  refine wpAny_Call_Name_kw (ld_glob I hg hm ?_ hdb)
  refine cw_any (P := fun h => X.K.In h) (PySem.W.keeps_K hk) (ea_gen hl hall (thn (ha.run pos pins s σ H _ I (tM.seq (rel := DVs X.K) h)) fun us s1 ⟨vs, H1, I1, r, q⟩ => ?_))
  obtain ⟨μ, M, ρ, ds, r1, e1, q1, a⟩ := q
  have a2 := Ans.bind (rel := DVs X.K) a
  refine thn (hkw.run pos pins s1 σ H1 _ I1 ⟨μ, M, ρ, r1, e1, a2⟩) fun ws s2 ⟨zs, H2, I2, rz, q2⟩ => ⟨I2.kIn, ?_⟩
  obtain ⟨μ2, M2, es2, l, r2, q2, a3⟩ := q2
  dsimp only
  rw [hks]
  exact c.run pins σ H2 s2 Q us ws vs zs μ2 M2 ds es2 I2 r rz r2 (q1.lift l) q2 a3
theorem me_calS (c : CalM X W f ks G) (hk : PySem.W.keepIn X.K f = true) (hg : Gl X x) (hm : X.mg x = some f) (ha : ME X W e fe) (hkw : MK X W kws g')
    (hall : (backToKw pos (keywordEach kws X.env)).all (·.1.isSome) = true := by rfl) (hks : (backToKw pos (keywordEach kws X.env)).filterMap (·.1) = ks := by rfl)
    (hdb : (x == ("__debug__" : Str)) = false := by decide) (hst : starEach [.Starred e p] X.env = [(true, eval e X.env)] := by rfl) {p0 : Pos} : ME X W (.Call (.Name x p0) [.Starred e p] kws pos) (eCalS G fe g') := by
  refine ⟨fun pins s σ H Q I h => ?_⟩
  refine wpAny_Call_Name_kw (ld_glob I hg hm ?_ hdb)
  rw [hst]
  refine cw_any (P := fun h => X.K.In h) (PySem.W.keeps_K hk) (ea_lone hall (thn (ha.run pins s σ H _ I (tM.seq (rel := DV X.K) h)) fun u s1 ⟨v, H1, I1, r, q⟩ => ?_))
  obtain ⟨μ, M, ρ, d, r1, e1, q1, a⟩ := q
  have a2 := Ans.bind (rel := DVs X.K) a
  refine thn (hkw.run pos pins s1 σ H1 _ I1 ⟨μ, M, ρ, r1, e1, a2⟩) fun ws s2 ⟨zs, H2, I2, rz, q2⟩ => ?_
  obtain ⟨μ2, M2, es2, l, r2, q2, a3⟩ := q2
  split at a3
  · rename_i xs hx
    obtain ⟨b, ys, ev, sq, dq⟩ := seqA_ok r2 (q1.lift l) hx
    subst ev
    obtain rfl : u = Value.ref b := r
    refine StX.star_any I2 sq.symm fun us s3 I3 rv => ⟨I3.kIn, ?_⟩
    dsimp only
    rw [hks]
    exact c.run pins σ H2 s3 Q us ws ys zs μ2 M2 xs es2 I3 rv rz r2 dq q2 a3
  · exact a3.elim
/-! ### fields -/
theorem FV.look {K : PySem.W.Frag} {μ : Nat → Addr} {N : Nat} {H : Hp} : ∀ {ps : List (Str × D)} {fs : List (Str × V)} {f : Str}, FV K μ N H ps fs → match ps.lookup f with
    | some d => ∃ v, fs.lookup f = some v ∧ DV K μ N H d v
    | none => fs.lookup f = none
  | [], fs, f, h => by rw [show fs = [] from h]; rfl
  | p :: ps, fs, f, h => by
    obtain ⟨v, r, e, h1, h2⟩ := h
    subst e
    have ih := FV.look (f := f) h2
    rw [List.lookup_cons, List.lookup_cons]
    cases hb : (f == p.1) with
    | true => exact ⟨v, rfl, h1⟩
    | false => exact ih
def putD (f : Str) (d : D) : List (Str × D) → List (Str × D)
  | [] => [(f, d)]
  | (g, x) :: r => if g = f then (g, d) :: r else (g, x) :: putD f d r
theorem FV.put {K : PySem.W.Frag} {μ : Nat → Addr} {N : Nat} {H : Hp} {f : Str} {d : D} {v : V} (q : DV K μ N H d v) : ∀ {ps : List (Str × D)} {fs : List (Str × V)}, FV K μ N H ps fs → FV K μ N H (putD f d ps) (putF f v fs)
  | [], fs, h => by rw [show fs = [] from h]; exact ⟨v, [], rfl, q, rfl⟩
  | p :: ps, fs, h => by
    obtain ⟨v1, r, e, h1, h2⟩ := h
    subst e
    unfold putD putF
    by_cases hp : p.1 = f
    · rw [if_pos hp, if_pos hp]; exact ⟨v, r, rfl, q, h2⟩
    · rw [if_neg hp, if_neg hp]; exact ⟨v1, _, rfl, h1, FV.put q h2⟩
theorem FV.length {K : PySem.W.Frag} {μ : Nat → Addr} {N : Nat} {H : Hp} : ∀ {ps : List (Str × D)} {fs : List (Str × V)}, FV K μ N H ps fs → fs.length = ps.length
  | [], fs, h => by rw [show fs = [] from h]; rfl
  | p :: ps, fs, h => by
    obtain ⟨v1, r, e, h1, h2⟩ := h
    subst e
    rw [List.length_cons, List.length_cons, FV.length h2]
/-- the classes cs have the field f as their instances' own -/
def Flds (K : PySem.W.Frag) (cs : List Str) (f : Str) : Prop := ∀ c, c ∈ cs → Cls K (He.ga K c) ∧ NoAttr K (He.ga K c) f
theorem Flds.nil {K : PySem.W.Frag} {f : Str} : Flds K [] f := fun c h => by cases h
theorem Flds.cons {K : PySem.W.Frag} {f c : Str} {cs : List Str} (h1 : Cls K (He.ga K c)) (h2 : NoAttr K (He.ga K c) f) (t : Flds K cs f) : Flds K (c :: cs) f := fun b h => by
  rcases List.mem_cons.mp h with rfl | h
  · exact ⟨h1, h2⟩
  · exact t b h
def getFld (cs : List Str) (f : Str) (M : Mem) (x : D) : Option D := match x with
  | .ref n => match M[n]? with
    | some (.ins c fs) => if c ∈ cs then fs.lookup f else none
    | _ => none
  | _ => none
def eFld (cs : List Str) (f : Str) (a : FE) : FE := fun ρ M => (a ρ M).bind fun x M1 => match getFld cs f M1 x with
  | some d => .ok d M1
  | none => .no
theorem me_fld {cs : List Str} {f : Str} (hc : Flds X.K cs f) (ha : ME X W e fe) (hb : attributeBase e f X.env (eval e X.env) = eval e X.env := by rfl) : ME X W (.Attribute e f pos) (eFld cs f fe) := by
  refine PE.weak (pe_fld ha hb) fun σ H Q h => ?_
  refine tM.mono (fun v H1 ⟨μ, M, ρ, d, r, e, q, a1⟩ => ?_) (tM.seq (rel := DV X.K) h)
  unfold getFld at a1
  cases d with
  | ref n =>
    dsimp only at a1
    cases ho : M[n]? with
    | none => rw [ho] at a1; exact a1.elim
    | some o =>
      rw [ho] at a1
      cases o with
      | ins c fs =>
        dsimp only at a1
        by_cases hm : c ∈ cs
        · rw [if_pos hm] at a1
          obtain ⟨dx, gs, h1, h2⟩ := r.obj n _ ho
          have h3 := FV.look (f := f) h2
          obtain ⟨hn, ev⟩ := (by unfold DV at q; exact q : n < M.length ∧ v = .ref (μ n))
          cases hl : fs.lookup f with
          | none => rw [hl] at a1; exact a1.elim
          | some d =>
            rw [hl] at a1 h3
            obtain ⟨w, h4, h5⟩ := h3
            exact ⟨_, _, dx, gs, w, ev, h1, (hc c hm).1, (hc c hm).2, h4, a1 μ H1 w (Lift.refl ..) r h5⟩
        · rw [if_neg hm] at a1; exact a1.elim
      | lst _ => exact a1.elim
      | dic _ => exact a1.elim
  | _ => exact a1.elim
def setFld (cs : List Str) (f : Str) (M : Mem) (x v : D) : Option Mem := match x with
  | .ref n => match M[n]? with
    | some (.ins c fs) => if c ∈ cs ∧ fs.length < 1000 then some (M.set n (.ins c (putD f v fs))) else none
    | _ => none
  | _ => none
/-- o.f = v, v first -/
def sFldM (cs : List Str) (f : Str) (a v : FE) : FStm := fun ρ M => SR.of (v ρ M) ρ fun d M1 => SR.of (a ρ M1) ρ fun x M2 => match setFld cs f M2 x d with
  | some M3 => .go .nx ρ M3
  | none => .no
theorem put_ins {K : PySem.W.Frag} {μ : Nat → Addr} {M : Mem} {H : Hp} {n : Nat} {c : Str} {fs fs' : List (Str × D)} {dx : Addr} {gs gs' : List (Str × V)} (r : Rel K μ M H) (h : M[n]? = some (.ins c fs)) (hx : H (μ n) = some (.ins (He.ga K c) dx gs)) (q : FV K μ M.length H fs' gs') :
    Rel K μ (M.set n (.ins c fs')) (upd H (μ n) (.ins (He.ga K c) dx gs')) ∧ Lift μ M.length H μ (M.set n (.ins c fs')).length (upd H (μ n) (.ins (He.ga K c) dx gs')) := by
  have hn : n < M.length := (List.getElem?_eq_some_iff.mp h).1
  have l : Lift μ M.length H μ M.length (upd H (μ n) (.ins (He.ga K c) dx gs')) := ⟨Nat.le_refl _, fun _ _ => rfl, Kp.ins hx, fun b u e hne => by rw [upd_ne (fun z => hne n hn z.symm)]; exact e, fun n h h' => absurd h (Nat.not_le.mpr h'), fun b e => dom_upd e⟩
  exact r.put hn ⟨dx, gs', upd_same, q.lift l⟩
theorem setFld_ok {K : PySem.W.Frag} {μ : Nat → Addr} {M M3 : Mem} {H : Hp} {cs : List Str} {f : Str} {x d : D} {xv dv : V} (hc : Flds K cs f) (r : Rel K μ M H) (qx : DV K μ M.length H x xv) (qd : DV K μ M.length H d dv) (h : setFld cs f M x d = some M3) :
    ∃ a C dx gs, xv = .ref a ∧ H a = some (.ins C dx gs) ∧ Cls K C ∧ NoAttr K C f ∧ gs.length < 1000 ∧ Rel K μ M3 (upd H a (.ins C dx (putF f dv gs))) ∧ Lift μ M.length H μ M3.length (upd H a (.ins C dx (putF f dv gs))) := by
  unfold setFld at h
  cases x with
  | ref n =>
    dsimp only at h
    cases ho : M[n]? with
    | none => rw [ho] at h; cases h
    | some o =>
      rw [ho] at h
      cases o with
      | ins c fs =>
        dsimp only at h
        by_cases hm : c ∈ cs ∧ fs.length < 1000
        · rw [if_pos hm] at h
          cases h
          obtain ⟨dx, gs, h1, h2⟩ := r.obj n _ ho
          obtain ⟨hn, ev⟩ := (by unfold DV at qx; exact qx : n < M.length ∧ xv = .ref (μ n))
          have z := put_ins r ho h1 (FV.put (f := f) qd h2)
          exact ⟨_, _, dx, gs, ev, h1, (hc c hm.1).1, (hc c hm.1).2, by rw [h2.length]; exact hm.2, z.1, z.2⟩
        · rw [if_neg hm] at h; cases h
      | lst _ => cases h
      | dic _ => cases h
  | _ => cases h
theorem ms_fld {cs : List Str} {f : Str} {fv : FE} {value : Expr} {pos' : Pos} (hc : Flds X.K cs f) (ha : ME X W o fo) (hv : ME X W value fv) (hs : swapsWith value (some (.Attribute o f pos')) pos.line X.env = pure false := by rfl) : MS X W (.Assign [.Attribute o f pos'] value pos) (sFldM cs f fo fv) := by
  refine PS.weak (ps_fld ha hv hs) fun D σ H h => ?_
  refine tM.mono (fun v H1 ⟨μ, M, ρ, d, r, e, q, a1⟩ => ?_) (tSt.expr (rel := DV X.K) h)
  have a2 : tM X.K (DV X.K) W fo σ H1 (fun xv H2 => ∃ μ2 M2 ρ2 x, Rel X.K μ2 M2 H2 ∧ EV X.K μ2 M2.length H2 ρ2 σ ∧ DV X.K μ2 M2.length H2 x xv ∧ DV X.K μ2 M2.length H2 d v ∧ AnsS X.K W μ2 M2.length H2 (match setFld cs f M2 x d with
      | some M3 => .go .nx ρ2 M3
      | none => .no) D) := by
    refine ⟨μ, M, ρ, r, e, ?_⟩
    cases hf : fo ρ M with
    | ok x M2 =>
      rw [hf] at a1
      exact fun μ' H' v' l r' q' => ⟨μ', M2, ρ, x, r', e.lift l, q', q.lift l, AnsS.rebase l a1⟩
    | ex ee M2 =>
      rw [hf] at a1
      exact fun μ' H' c dd l r' xv => a1 μ' H' σ c dd l r' (e.lift l) xv
    | no => rw [hf] at a1; exact a1.elim
  refine tM.mono (fun xv H2 ⟨μ2, M2, ρ2, x, r2, e2, qx, qd, a3⟩ => ?_) a2
  split at a3
  · rename_i M3 hM
    obtain ⟨a, C, dx, gs, ev, h1, h2, h3, h4, h5, h6⟩ := setFld_ok hc r2 qx qd hM
    exact ⟨a, C, dx, gs, ev, h1, h2, h3, h4, a3 μ2 _ σ h6 h5 (e2.lift h6)⟩
  · exact a3.elim
/-- a target o.f -/
def gFld (cs : List Str) (f : Str) (a : FE) : FG := fun d ρ M => SR.of (a ρ M) ρ fun x M2 => match setFld cs f M2 x d with
  | some M3 => .go .nx ρ M3
  | none => .no
end
end Br
end
section
namespace Br
open PySem PySem.Spec PyProof.Rows L2
section
variable {X : Cx} {W : WX} {e o fe_ : Expr} {es : List Expr} {kws : List Keyword} {fo fe : FE} {g g' : FA} {ks : List Str} {x m : Str} {p pos apos : Pos}
theorem mg_fld {cs : List Str} {f : Str} (hc : Flds X.K cs f) (ha : ME X W o fo) : MG X W (.Attribute o f pos) (gFld cs f fo) := by
  refine ⟨fun pins s σ H v u Q I rv ⟨μ, M, ρ, d, r, e, q, a⟩ => ?_⟩
  rw [arm_assign_Attribute]
  have h1 : tM X.K (DV X.K) W fo σ H (fun xv H1 => ∃ a C dx gs, xv = .ref a ∧ H1 a = some (.ins C dx gs) ∧ Cls X.K C ∧ NoAttr X.K C f ∧ gs.length < 1000 ∧ Q σ (upd H1 a (.ins C dx (putF f v gs)))) := by
    refine ⟨μ, M, ρ, r, e, ?_⟩
    unfold gFld at a
    cases hf : fo ρ M with
    | ok x M2 =>
      rw [hf] at a
      intro μ' H' xv l r' q'
      have a2 : AnsS X.K W μ' M2.length H' _ _ := AnsS.rebase l a
      dsimp only [SR.of] at a2
      split at a2
      · rename_i M3 hM
        obtain ⟨b, C, dx, gs, ev, h1, h2, h3, h4, h5, h6⟩ := setFld_ok hc r' q' (q.lift l) hM
        exact ⟨b, C, dx, gs, ev, h1, h2, h3, h4, a2 μ' _ σ h6 h5 ((e.lift l).lift h6)⟩
      · exact a2.elim
    | ex ee M2 =>
      rw [hf] at a
      exact fun μ' H' c dd l r' xv => a μ' H' σ c dd l r' (e.lift l) xv
    | no => rw [hf] at a; exact a.elim
  refine wpAny_bind (wpAny_holding (thn (ha.run pins s σ H _ I h1) fun ov s1 ⟨xv, H1, I1, r1, b, C, dx, gs, ev, h2, h3, h4, h5, q5⟩ => ?_))
  subst ev
  obtain rfl : ov = Value.ref b := r1
  refine wpAny_bind (wpAny_standAt (wpAny_bind (wpAny_holding (setattr_ok I1 h2 h3 h4 h5 rv fun s2 I2 => ?_))))
  exact wpAny_release ⟨σ, _, I2, q5⟩
/-! ### methods -/
/-- the method m of the class c, called, gives what G gives (of the instance and the values) -/
structure MethOk (X : Cx) (W : WX) (c m : Str) (ks : List Str) (G : FCal) : Prop where
  ex : ∃ g, Cls X.K (He.ga X.K c) ∧ Meth X.K (He.ga X.K c) m g ∧ CalM X W (.ref g) ks G
abbrev MTb := List (Str × FCal)
def MTs_ (X : Cx) (W : WX) (m : Str) (ks : List Str) (tb : MTb) : Prop := ∀ c G, tb.lookup c = some G → MethOk X W c m ks G
theorem mtb_nil : MTs_ X W m ks [] := fun c G h => by cases h
theorem mtb_cons {c : Str} {G : FCal} {tb : MTb} (h1 : MethOk X W c m ks G) (t : MTs_ X W m ks tb) : MTs_ X W m ks ((c, G) :: tb) := fun b G' h => by
  rw [List.lookup_cons] at h
  split at h
  · rename_i hb
    cases h
    rw [eq_of_beq hb]; exact h1
  · exact t b G' h
/-- which instance, whose class has what -/
def insOf (M : Mem) (x : D) : Option (Nat × Str × List (Str × D)) := match x with
  | .ref n => match M[n]? with
    | some (.ins c fs) => some (n, c, fs)
    | _ => none
  | _ => none
theorem insOf_ok {K : PySem.W.Frag} {μ : Nat → Addr} {M : Mem} {H : Hp} {x : D} {v : V} {n : Nat} {c : Str} {fs : List (Str × D)} (r : Rel K μ M H) (q : DV K μ M.length H x v) (h : insOf M x = some (n, c, fs)) :
    x = .ref n ∧ v = .ref (μ n) ∧ ∃ dx gs, H (μ n) = some (.ins (He.ga K c) dx gs) ∧ FV K μ M.length H fs gs := by
  unfold insOf at h
  cases x with
  | ref k =>
    dsimp only at h
    cases ho : M[k]? with
    | none => rw [ho] at h; cases h
    | some o =>
      rw [ho] at h
      cases o with
      | ins c' fs' =>
        cases h
        obtain ⟨dx, gs, h1, h2⟩ := r.obj n _ ho
        exact ⟨rfl, (by unfold DV at q; exact q.2), dx, gs, h1, h2⟩
      | lst _ => cases h
      | dic _ => cases h
  | _ => cases h
def eMeth (m : Str) (tb : MTb) (a : FE) (g g' : FA) : FE := fun ρ M => (a ρ M).bind fun x M1 => match insOf M1 x with
  | some (n, c, fs) => (match tb.lookup c with
    | some G => if (fs.lookup m).isNone = true then (g ρ M1).bind fun ds M2 => (g' ρ M2).bind fun es M3 => G (.ref n :: ds) es M3 else .no
    | none => .no)
  | none => .no
theorem me_meth {tb : MTb} {pl : Sem Bool} (ht : MTs_ X W m ks tb) (ho : ME X W o fo) (ha : MA X W es g) (hkw : MK X W kws g')
    (hall : (backToKw pos (keywordEach kws X.env)).all (·.1.isSome) = true := by rfl) (hks : (backToKw pos (keywordEach kws X.env)).filterMap (·.1) = ks := by rfl) (hl : lone (backTo pos (starEach es X.env)) = false := by rfl)
    (he : eval (.Call (.Attribute o m apos) es kws pos) X.env = (do
      let ov ← eval o X.env
      standAt apos.atName
      let (f, first) ← holding [ov] (getMethod ov m pl)
      callWith pos f first (backTo pos (starEach es X.env)) (backToKw pos (keywordEach kws X.env))) := by rfl) :
    ME X W (.Call (.Attribute o m apos) es kws pos) (eMeth m tb fo g g') := by
  refine ⟨fun pins s σ H Q I h => ?_⟩
  refine PySem.W.methodCall_KW (pl := pl) (thn (ho.run pins s σ H _ I (tM.seq (rel := DV X.K) h)) fun u s1 ⟨v, H1, I1, rv, μ, M, ρ, d, r, e, q, a⟩ => ?_) he
  split at a
  · rename_i n c fs hi
    obtain ⟨ed, ev, dx, gs, h1, h2⟩ := insOf_ok r q hi
    subst ed ev
    obtain rfl : u = Value.ref (μ n) := rv
    split at a
    · rename_i G hG
      obtain ⟨ga, c1, c2, c3⟩ := (ht c G hG).ex
      split at a
      · rename_i hn
        have h3 := FV.look (f := m) h2
        rw [Option.isNone_iff_eq_none.mp hn] at h3
        refine getmeth_ok I1 h1 c1 c2 h3 ?_
        have a2 := Ans.bind (rel := DVs X.K) a
        refine cw_any (P := fun h => X.K.In h) (PySem.W.keeps_K c2.kp) (ea_gen hl hall (thn (ha.run pos pins s1 σ H1 _ I1 ⟨μ, M, ρ, r, e, a2⟩) fun us s2 ⟨vs, H2, I2, rvs, q2⟩ => ?_))
        obtain ⟨μ2, M2, ds, l2, r2, q2, a3⟩ := q2
        have a4 := Ans.bind (rel := DVs X.K) a3
        refine thn (hkw.run pos pins s2 σ H2 _ I2 ⟨μ2, M2, ρ, r2, e.lift l2, a4⟩) fun ws s3 ⟨zs, H3, I3, rz, q3⟩ => ⟨I3.kIn, ?_⟩
        obtain ⟨μ3, M3, es3, l3, r3, q3, a5⟩ := q3
        dsimp only
        rw [hks]
        exact c3.run pins σ H3 s3 Q (Value.ref (μ n) :: us) ws (V.ref (μ n) :: vs) zs μ3 M3 (.ref n :: ds) es3 I3 (.cons rfl rvs) rz r3 (DVs.cons ((q.lift l2).lift l3) (q2.lift l3)) q3 a5
      · exact a.elim
    · exact a.elim
  · exact a.elim
theorem meth_fn {k n : Nat} {c : Str} {f : Addr} {fd : FuncData} {ps : List Str} {fm : FL} {gD : List D → List D → List D} (hC : Cls X.K (He.ga X.K c)) (hM : Meth X.K (He.ga X.K c) m f) (F : FnM X.prog X.w X.K X.mg X.base k f fd ps fm) (hab : AB X.prog X.w X.K X.mg X.base fd ps n ks gD)
    (hr : Room k X.A) (hg : X.A.guards = some []) (tk : L2N.Takes X W) : MethOk X W c m ks (gC n ks.length gD fm) := ⟨f, hC, hM, cal_fn F hab hr hg tk⟩
theorem meth_fs {k : Nat} {c : Str} {f : Addr} {fd : FuncData} {ps : List Str} {fm : FL} {gD : List D → List D → List D} (hC : Cls X.K (He.ga X.K c)) (hM : Meth X.K (He.ga X.K c) m f) (F : FnM X.prog X.w X.K X.mg X.base k f fd ps fm) {q : Nat} (hab : ∀ n, q ≤ n → n ≤ 1000 → AB X.prog X.w X.K X.mg X.base fd ps n ks gD)
    (hr : Room k X.A) (hg : X.A.guards = some []) (tk : L2N.Takes X W) : MethOk X W c m ks (gCs q ks.length gD fm) := ⟨f, hC, hM, cal_fs F hab hr hg tk⟩
/-! ### a callee run where nothing may leave it -/
def noEx {α : Type} (r : R α) : R α := match r with
  | .ex _ _ => .no
  | r => r
theorem ans_noEx {K : PySem.W.Frag} {α β : Type} {rel : (Nat → Addr) → Nat → Hp → α → β → Prop} {W1 W2 : W0} {μ : Nat → Addr} {N : Nat} {H : Hp} {r : R α} {Q : β → Hp → Prop} (a : Ans K rel W1 μ N H (noEx r) Q) : Ans K rel W2 μ N H r Q := by
  cases r with
  | ok d M => exact a
  | ex e M => exact a.elim
  | no => exact a
theorem run_at {A' : Around} {pins : List (Addr × Obj)} {σ : L2.St} {H : Hp} {s : Shared} {Q : VK} {us ws : List Value} {vs zs : List V} {n k : Nat} {f : Addr} {fd : FuncData} {ps : List Str} {fm : FL} {gD : List D → List D → List D} {μ : Nat → Addr} {M : Mem} {ds es : List D} {E' : Value → Shared → Prop} (F : FnM X.prog X.w X.K X.mg X.base k f fd ps fm) (hab : AB X.prog X.w X.K X.mg X.base fd ps n ks gD)
    (hr : Room k A') (hg : A'.guards = some []) (e0 : Env0 X.prog X.w X.K X.mg X.base A' X.stack s H) (I : Inv X pins σ H s) (rv : Vals vs us) (rz : Vals zs ws) (r : Rel X.K μ M H) (q : DVs X.K μ M.length H ds vs) (qz : DVs X.K μ M.length H es zs) (l1 : ds.length = n) (l2 : es.length = ks.length)
    (a : Ans X.K (DV X.K) (fun _ _ _ => False) μ M.length H (noEx (fm (gD ds es) M)) Q) : wpAny (model X.prog X.w) A' (call (.ref f) us (ks.zip ws)) (EP X pins σ Q) E' s := by
  have hb := hab.bnd A' X.stack s H (fun _ _ _ => False) us ws vs zs μ M ds es e0 (by rw [← rv.length, q.length, l1]) (by rw [← rz.length, qz.length, l2]) rv rz r q qz
  refine wpAny_call (codeAny_mono (F.run A' X.stack s H _ Q _ _ hr hg e0 hb fun v H2 ⟨r2, l, q2⟩ => ⟨μ, M, _, r2, q2, Ans.rebase l (ans_noEx a)⟩) fun r s' hq => ?_)
  cases r with
  | error e =>
    obtain ⟨a, B, H', cls, d, _, _, _, _, _, _, _, hE⟩ := hq
    exact hE.elim
  | ok fl =>
    cases fl with
    | ret u => exact I.after hq
    | next => exact False.elim hq
    | brk => exact False.elim hq
    | cont => exact False.elim hq
/-! ### properties -/
def propA (K : PySem.W.Frag) (p : Addr) : Addr := match PySem.W.recIn K p "property" with
  | some (.ref g :: _) => g
  | _ => 0
/-- the getter of the property f of the class c gives what fm gives -/
structure PropOk (X : Cx) (c f : Str) (fm : FL) : Prop where
  ex : ∃ (p g : Addr) (fd : FuncData) (ps : List Str) (k : Nat), Cls X.K (He.ga X.K c) ∧ PropOf X.K (He.ga X.K c) f p g ∧ FnM X.prog X.w X.K X.mg X.base k g fd ps fm ∧ AB X.prog X.w X.K X.mg X.base fd ps 1 [] (fun ds _ => ds) ∧ Room (k + 1) X.A
abbrev PTb := List (Str × FL)
def PTs_ (X : Cx) (f : Str) (tb : PTb) : Prop := ∀ c G, tb.lookup c = some G → PropOk X c f G
theorem ptb_nil {f : Str} : PTs_ X f [] := fun c G h => by cases h
theorem ptb_cons {f c : Str} {G : FL} {tb : PTb} (h1 : PropOk X c f G) (t : PTs_ X f tb) : PTs_ X f ((c, G) :: tb) := fun b G' h => by
  rw [List.lookup_cons] at h
  split at h
  · rename_i hb
    cases h
    rw [eq_of_beq hb]; exact h1
  · exact t b G' h
def eProp (tb : PTb) (a : FE) : FE := fun ρ M => (a ρ M).bind fun x M1 => match insOf M1 x with
  | some (n, c, _) => (match tb.lookup c with
    | some G => noEx (G [.ref n] M1)
    | none => .no)
  | none => .no
theorem me_prop {f : Str} {tb : PTb} (ht : PTs_ X f tb) (hgd : X.A.guards = some []) (ha : ME X W e fe) (hab : attributeBase e f X.env (eval e X.env) = eval e X.env := by rfl) : ME X W (.Attribute e f pos) (eProp tb fe) := by
  refine ⟨fun pins s σ H Q I h => ?_⟩
  refine attr_of hab (thn (ha.run pins s σ H _ I (tM.seq (rel := DV X.K) h)) fun u s1 ⟨v, H1, I1, rv, μ, M, ρ, d, r, e, q, a⟩ => ?_)
  split at a
  · rename_i n c fs hi
    obtain ⟨ed, ev, dx, gs, h1, h2⟩ := insOf_ok r q hi
    subst ed ev
    obtain rfl : u = Value.ref (μ n) := rv
    split at a
    · rename_i G hG
      obtain ⟨p, g, fd, ps, k, c1, c2, F, hb, hr⟩ := (ht c G hG).ex
      obtain ⟨mA, O, _, _, _, _⟩ := ins_get I1.hok h1
      obtain ⟨od, J, _⟩ := O.look
      obtain ⟨rest, hrec⟩ := c2.rec_
      have I2 := I1.tok (s1.toks + 1)
      have hc : (PySem.W.clsIn X.K (He.ga X.K c)).isSome = true := by
        obtain ⟨cd, hc, _⟩ := PySem.W.any_some c1.hd
        rw [hc]
        rfl
      refine PySem.W.get_bind I1.kIn J (PySem.W.plainGet_of (c1.get f)).1 (PySem.W.findObj_data hc c2.at_ c2.get c2.tak) (PySem.W.plainGet_of (c1.get f)).2 (wpAny_call (PySem.W.prop_get (s := { s1 with toks := s1.toks + 1 }) I1.kIn hrec ?_))
      have hbb := hb.bnd X.A.in1 X.stack { s1 with toks := s1.toks + 1 } H1 (fun _ _ _ => False) [.ref (μ n)] [] [.ref (μ n)] [] μ M [.ref n] [] I2.env0.in1 rfl rfl (.cons rfl .nil) .nil r (DVs.cons q DVs.nil) DVs.nil
      refine codeAny_mono (F.run X.A.in1 X.stack { s1 with toks := s1.toks + 1 } H1 _ Q _ _ hr.in1 hgd I2.env0.in1 hbb fun v H2 ⟨r2, l, q2⟩ => ⟨μ, M, _, r2, q2, Ans.rebase l (ans_noEx a)⟩) fun r s' hq => ?_
      cases r with
      | error er =>
        obtain ⟨a, B, H', cls, d, _, _, _, _, _, _, _, hE⟩ := hq
        exact hE.elim
      | ok fl =>
        cases fl with
        | ret u =>
          obtain ⟨v, H', I3, rv, q3⟩ := I2.after hq
          show wpAny _ _ (handedOut u) _ _ _
          rw [PySem.W.handedOut_of (handed_of rv)]
          exact wpAny_pure ⟨v, H', I3, rv, q3⟩
        | next => exact False.elim hq
        | brk => exact False.elim hq
        | cont => exact False.elim hq
    · exact a.elim
  · exact a.elim
end
end Br
end
section
namespace Br
open PySem PySem.Spec PyProof.Rows L2
/-! ### def f(a, .., *v, k = d, ..) -/
def KwCh {α : Type} (D : Addr) : List (Str × Value) → Sem α → Sem α → Prop
  | [], t, r => t = r
  | q :: l, t, r => ∃ (β γ : Type) (k1 : Option Value → Sem β) (k2 : β → Sem γ) (k3 : γ → Sem α) (a : β), t = ((nsGet D q.1 >>= k1) >>= k2) >>= k3 ∧ k1 (some q.2) = pure a ∧ KwCh D l (k2 a >>= k3) r
theorem KwCh.wp {α : Type} {K : PySem.W.Frag} {M : Model} {A : Around} {Q : α → Shared → Prop} {E : Value → Shared → Prop} {s : Shared} {D : Addr} (X : K.In s.heap) : ∀ {l : List (Str × Value)} {t r : Sem α}, (∀ q ∈ l, PySem.W.nsIn K D q.1 = some (some q.2)) → KwCh D l t r → wpAny M A r Q E s → wpAny M A t Q E s
  | [], t, r, _, e, h => by rw [show t = r from e]; exact h
  | q :: l, t, r, hl, e, h => by
    obtain ⟨β, γ, k1, k2, k3, a, e1, e2, e3⟩ := e
    have ih := KwCh.wp X (fun p hp => hl p (List.mem_cons_of_mem _ hp)) e3 h
    rw [e1, bind_assoc, bind_assoc]
    refine wpAny_bind ((PySem.W.looks_nsIn X (hl q (List.mem_cons_self ..))).here ?_)
    rw [e2, pure_bind]
    exact ih
section
variable {P : Program} {w : World} {K : PySem.W.Frag} {mg : Str → Option Value} {base : Heap}
theorem AB.of_starKw {x qual : Str} {params : Arguments} {body : List Stmt} {scope : Scope} {kws : List (Str × V)} {f : Addr} {fd : FuncData} {ps : List Str} {pv : Str} {p n : Nat} {ks : List Str} (F : FunD K x qual params body scope [] kws f fd) (ms : List (Str × V)) (md : List D) (g : {α : Type} → List α → List α → List α → List α)
    (hk : kws ≠ []) (hms : ∀ q ∈ ms, q ∈ kws) (hmd : ∀ μ N H, DVs K μ N H md (ms.map (·.2))) (hn : p ≤ n) (hz : n ≤ 1000)
    (hrel : ∀ {vs zs mz : List V} {us ws mv : List Value}, Vals vs us → Vals zs ws → Vals mz mv → Vals (g vs zs mz) (g us ws mv))
    (hlen : ∀ us ws mv : List V, us.length = p → ws.length = ks.length → mv.length = ms.length → (g us ws mv).length = ps.length)
    (hdv : ∀ (μ : Nat → Addr) (N : Nat) (H : Hp) (ds : List D) (vs : List V) (es : List D) (zs : List V) (md : List D) (mz : List V), DVs K μ N H ds vs → DVs K μ N H es zs → DVs K μ N H md mz → ds.length = p → es.length = ks.length → md.length = ms.length → DVs K μ N H (g ds es md) (g vs zs mz))
    (h : ∀ (D : Addr) (doc pm : Value) (an : Option Addr) (cdv ct : Value) (us rest ws mv : List Value), us.length = p → ws.length = ks.length → mv.length = ms.length →
      KwCh D ((ms.map (·.1)).zip mv) (bindArgs (PySem.W.fnOf x qual params body scope .none (.ref D) doc pm an cdv ct) ⟨us ++ rest, ks.zip ws⟩) (newTuple rest >>= fun t => pure (ps.zip (g us ws mv) ++ [(pv, t)]))) :
    AB P w K mg base fd (ps ++ [pv]) n ks (fun ds es => g (ds.take p) es md ++ [.tup (ds.drop p)]) := by
  obtain ⟨oc, od, dV, kV, doc, pm, an, cdv, ct, osl, rfl, lk, hcd, hD, hK⟩ := F.ex
  rcases hD with ⟨_, rfl⟩ | ⟨e, _⟩
  case inr => exact absurd rfl e
  rcases hK with e | ⟨D, rfl, hq⟩
  case inl => exact absurd e hk
  obtain ⟨mv, hl, rk, hks⟩ := kwd_vals (ms := ms) fun q hm => hq q (hms q hm)
  refine ⟨fun A outer s H E us ws vs zs μ M ds es e0 l1 l2 rv rz r q qz A' Ex Q k => ?_⟩
  have hu : us = us.take p ++ us.drop p := (List.take_append_drop ..).symm
  have hlu : (us.take p).length = p := by rw [List.length_take]; omega
  have hb := h D doc pm an cdv ct (us.take p) (us.drop p) ws mv hlu l2 hl
  rw [← hu] at hb
  refine KwCh.wp (Env0.kin e0) hks hb ?_
  have hld : (us.drop p).length ≤ sizeLine := by
    rw [List.length_drop, l1]
    have : (1000 : Nat) ≤ sizeLine := by decide
    omega
  refine wpAny_bind (wpAny_newObj_type ?_ hld)
  refine wpAny_pure ?_
  have hfr : H s.heap.objs.size = Option.none := e0.hok.fresh (Nat.le_refl _)
  have new : ObjOk P w (upd H s.heap.objs.size (.tup (vs.drop p))) (s.heap.push { cls := .type "tuple", data := .seq (us.drop p).toArray }) s.heap.objs.size (.tup (vs.drop p)) := by
    refine ⟨by rw [List.length_drop, rv.length, ← List.length_drop]; exact hld, us.drop p, rv.drop _, ?_⟩
    exact IsTup.new s.heap _
  have e1 := StX.env0_laid e0 new
  have un : Un (frs outer) [] H (upd H s.heap.objs.size (.tup (vs.drop p))) s.heap (s.heap.push { cls := .type "tuple", data := .seq (us.drop p).toArray }) := StX.un_laid hfr
  have rg : Vals (g (vs.take p) zs (ms.map (·.2))) (g (us.take p) ws mv) := hrel (rv.take _) rz rk
  have lg : (g (vs.take p) zs (ms.map (·.2))).length = ps.length := hlen _ _ _ (by rw [List.length_take, rv.length, l1]; omega) (rz.length.trans l2) (by rw [List.length_map])
  have hz : (ps ++ [pv]).zip (g (us.take p) ws mv ++ [Value.ref s.heap.objs.size]) = ps.zip (g (us.take p) ws mv) ++ [(pv, Value.ref s.heap.objs.size)] := by
    rw [List.zip_append (by rw [← rg.length, lg])]; rfl
  rw [← hz]
  refine k { s with heap := s.heap.push { cls := .type "tuple", data := .seq (us.drop p).toArray } } _ (g (vs.take p) zs (ms.map (·.2)) ++ [V.ref s.heap.objs.size]) _ e1 un rfl (fun e s' z => ?_) (rg.append (.cons rfl .nil)) ?_ ⟨r.fresh hfr, Lift.fresh hfr, ?_⟩
  · exact upN outer s H { s with heap := s.heap.push { cls := .type "tuple", data := .seq (us.drop p).toArray } } (upd H s.heap.objs.size (.tup (vs.drop p))) E e s' un (fun b o q => Heap.get?_push_of_some _ q) rfl z
  · rw [List.length_append, List.length_append, lg]; rfl
  · refine DVs.append ((hdv _ _ _ _ _ _ _ _ _ (q.take p) qz (hmd _ _ _) (by rw [List.length_take, ← q.length, rv.length, l1]; omega) (by rw [← qz.length, rz.length, l2]) (by have z := (hmd μ M.length H).length; rw [List.length_map] at z; exact z.symm)).lift (Lift.fresh hfr)) (DVs.cons ?_ DVs.nil)
    unfold DV
    exact ⟨_, _, rfl, SqT.of upd_same, (q.drop _).lift (Lift.fresh hfr)⟩
end
/-! ### len(x) of an instance, of lists, .. -/
section
variable {X : Cx} {W : WX} {e o : Expr} {es : List Expr} {kws : List Keyword} {fo fe : FE} {g g' : FA} {ks : List Str} {x m : Str} {p pos apos : Pos}
/-- the special method m (a plain def) of the class c -/
structure SpecOk (X : Cx) (c m : Str) (n : Nat) (fm : FL) : Prop where
  ex : ∃ (g : Addr) (fd : FuncData) (ps : List Str) (k : Nat), PySem.W.findIn X.K (.ref (He.ga X.K c)) m = some (some (.ref g)) ∧ PySem.W.typeIn X.K (.ref g) = some (.type "function") ∧ FnM X.prog X.w X.K X.mg X.base k g fd ps fm ∧ AB X.prog X.w X.K X.mg X.base fd ps n [] (fun ds _ => ds) ∧ Room (k + 1) X.A
def STs_ (X : Cx) (f : Str) (n : Nat) (tb : PTb) : Prop := ∀ c G, tb.lookup c = some G → SpecOk X c f n G
theorem stb_nil {f : Str} {n : Nat} : STs_ X f n [] := fun c G h => by cases h
theorem stb_cons {f c : Str} {n : Nat} {G : FL} {tb : PTb} (h1 : SpecOk X c f n G) (t : STs_ X f n tb) : STs_ X f n ((c, G) :: tb) := fun b G' h => by
  rw [List.lookup_cons] at h
  split at h
  · rename_i hb
    cases h
    rw [eq_of_beq hb]; exact h1
  · exact t b G' h
def lenR (r : R D) : R D := match r with
  | .ok (.int i) M => if 0 ≤ i ∧ i < 2 ^ 63 then .ok (.int i) M else .no
  | _ => .no
def gLenO (tb : PTb) : FL := fun ds M => match ds with
  | [d] => (match insOf M d with
    | some (n, c, _) => (match tb.lookup c with
      | some G => lenR (G [.ref n] M)
      | none => .no)
    | none => gLen ds M)
  | _ => .no
theorem ans_lenR {K : PySem.W.Frag} {W1 W2 : W0} {μ : Nat → Addr} {N : Nat} {H : Hp} {r : R D} {Q : VK} (a : Ans K (DV K) W1 μ N H (lenR r) Q) : Ans K (DV K) W2 μ N H (noEx r) (fun v H' => (∃ i : Int, v = .int i ∧ 0 ≤ i ∧ i < 2 ^ 63) ∧ Q v H') := by
  cases r with
  | ok d M =>
    cases d with
    | int i =>
      unfold lenR at a
      dsimp only at a
      split at a
      · rename_i hi
        intro μ' H' v l r' q
        exact ⟨⟨i, by unfold DV at q; exact q, hi⟩, a μ' H' v l r' q⟩
      · exact a.elim
    | _ => exact a.elim
  | ex e M => exact a.elim
  | no => exact a
theorem cm_lenO {tb : PTb} (ht : STs_ X "__len__" 1 tb) (hgd : X.A.guards = some []) : CallM X (.builtin "len") (gLenO tb) := by
  intro W pins s σ H xs us Q I rx ⟨μ, M, as, r, qa, a⟩
  unfold gLenO at a
  split at a
  · rename_i d
    split at a
    · rename_i n c fs hi
      obtain ⟨v, r', ev, q1, q2⟩ := qa.inv_cons
      obtain ⟨ed, ev2, dx, gs, h1, h2⟩ := insOf_ok r q1 hi
      rw [q2.inv_nil] at ev
      subst ev ed ev2
      obtain ⟨u, rfl, ru⟩ := vals1 rx
      obtain rfl : u = Value.ref (μ n) := ru
      split at a
      · rename_i G hG
        obtain ⟨ga, fd, ps, k, c1, c2, F, hb, hr⟩ := (ht c G hG).ex
        obtain ⟨mA, O, _, _, _, _⟩ := ins_get I.hok h1
        obtain ⟨od, J, _⟩ := O.look
        refine Calls.call_function_entry kind_len plain_len entry_len (args_len1 _) ?_
        unfold Builtin.«len»
        refine wpAny_bind (m := oneArg "len" _) (wpAny_pure ?_)
        refine wpAny_bind (m := callSpecial? (.ref (μ n)) (PySem.Str.ofString "__len__")) (PySem.W.special_fn I.kIn J c1 c2 ?_)
        have z := run_at (A' := X.A.in1) (us := [Value.ref (μ n)]) (ws := []) (vs := [V.ref (μ n)]) (zs := []) (ks := []) (ds := [.ref n]) (es := []) (E' := X.xe) F hb hr.in1 hgd I.env0.in1 I (.cons rfl .nil) .nil r (DVs.cons q1 DVs.nil) DVs.nil rfl rfl (ans_lenR a)
        refine thn z fun u s1 ⟨v, H1, I1, rv, ⟨i, ei, hlo, hhi⟩, q⟩ => ?_
        subst ei
        obtain ⟨t, rfl⟩ := rv
        refine wpAny_bind (wpAny_holding (wpAny_pure ?_))
        refine wpAny_bind (wpAny_letGo ?_)
        show wpAny _ _ (if i < 0 then _ else _) _ _ _
        rw [if_neg (by omega)]
        show wpAny _ _ (if i ≥ 2 ^ 63 then _ else _) _ _ _
        rw [if_neg (by omega)]
        exact wpAny_bind (wpAny_mkInt (wpAny_pure ⟨_, rfl, .int i, H1, I1.tok _, ⟨_, rfl⟩, q⟩))
      · exact a.elim
    · exact cm_len W pins s σ H xs us Q I rx ⟨μ, M, _, r, qa, a⟩
  · exact a.elim
/-! ### an instance, called -/
structure CalO (X : Cx) (W : WX) (c : Str) (G : FCal) : Prop where
  ex : ∃ (g : Addr) (fd : FuncData) (ps : List Str) (k n : Nat) (gD : List D → List D → List D) (fm : FL), StX.CallO X.K (He.ga X.K c) g ∧ FnM X.prog X.w X.K X.mg X.base k g fd ps fm ∧ AB X.prog X.w X.K X.mg X.base fd ps n [] gD ∧ Room k X.A ∧ L2N.Takes X W ∧ G = gC n 0 gD fm
def OTs_ (X : Cx) (W : WX) (tb : MTb) : Prop := ∀ c G, tb.lookup c = some G → CalO X W c G
theorem otb_nil : OTs_ X W [] := fun c G h => by cases h
theorem otb_cons {c : Str} {G : FCal} {tb : MTb} (h1 : CalO X W c G) (t : OTs_ X W tb) : OTs_ X W ((c, G) :: tb) := fun b G' h => by
  rw [List.lookup_cons] at h
  split at h
  · rename_i hb
    cases h
    rw [eq_of_beq hb]; exact h1
  · exact t b G' h
/-- f(e, ..), f an expression that gives an instance -/
def eInst (tb : MTb) (a : FE) (g : FA) : FE := fun ρ M => (a ρ M).bind fun x M1 => match x with
  | .ref k => (g ρ M1).bind fun ds M2 => (match insOf M2 (.ref k) with
    | some (n, c, _) => (match tb.lookup c with
      | some G => G (.ref n :: ds) [] M2
      | none => .no)
    | none => .no)
  | _ => .no
end
end Br
end
section
namespace Br
open PySem PySem.Spec PyProof.Rows L2
section
variable {X : Cx} {W : WX} {e o fx : Expr} {es : List Expr} {kws : List Keyword} {fo fe : FE} {g g' : FA} {ks : List Str} {x m : Str} {p pos apos : Pos} {body : List Stmt} {rest : List MatchCase}
theorem me_inst {tb : MTb} (ht : OTs_ X W tb) (hgd : X.A.guards = some []) (hf : ME X W fx fe) (ha : MA X W (e :: es) g)
    (he2 : eval (.Call fx (e :: es) [] pos) X.env = (do callWith pos (← eval fx X.env) [] (backTo pos (starEach (e :: es) X.env)) (backToKw pos (keywordEach [] X.env))) := by rfl)
    (he : starEach (e :: es) X.env = (false, eval e X.env) :: starEach es X.env := by rfl) (hpl : (backTo pos (starEach es X.env)).any (·.1) = false := by rfl) : ME X W (.Call fx (e :: es) [] pos) (eInst tb fe g) := by
  refine ⟨fun pins s σ H Q I h => ?_⟩
  refine Call_ (thn (hf.run pins s σ H _ I (tM.seq (rel := DV X.K) h)) fun u s1 ⟨v, H1, I1, rv, μ, M, ρ, d, r, e, q, a⟩ => ?_) he2
  cases d with
  | ref b =>
    have a2 := Ans.bind (rel := DVs X.K) a
    obtain ⟨hb1, ev⟩ := (by unfold DV at q; exact q : b < M.length ∧ v = .ref (μ b))
    subst ev
    obtain rfl : u = Value.ref (μ b) := rv
    refine StX.callO_with (thn (ha.run pos pins s1 σ H1 _ I1 ⟨μ, M, ρ, r, e, a2⟩) fun us s2 ⟨vs, H2, I2, rvs, q2⟩ => ?_) he hpl
    obtain ⟨μ2, M2, ds, l2, r2, q2, a3⟩ := q2
    split at a3
    · rename_i n c fs hi
      obtain ⟨ed, ev, dx, gs, h1, h2⟩ := insOf_ok r2 (q.lift l2) hi
      cases ed
      have ev' : μ b = μ2 b := V.ref.inj ev
      rw [ev']
      split at a3
      · rename_i G hG
        obtain ⟨ga, fd, ps, k, n', gD, fm, c1, F, hb, hr, tk, rfl⟩ := (ht c G hG).ex
        obtain ⟨ox, od, J, hd⟩ := StX.insC_at I2 (.inr ⟨dx, gs, h1⟩)
        refine ⟨⟨_, ox, od, J, hd⟩, ?_⟩
        unfold gC at a3
        split at a3
        · rename_i hl
          have q' : DV X.K μ2 M2.length H2 (.ref b) (.ref (μ2 b)) := by rw [← ev']; exact q.lift l2
          have hbb := hb.bnd X.A X.stack s2 H2 (fun c d H' => W c d σ H') (Value.ref (μ2 b) :: us) [] (V.ref (μ2 b) :: vs) [] μ2 M2 (.ref b :: ds) [] I2.env0 (by rw [← hl.1, List.length_cons, List.length_cons, ← rvs.length, q2.length]) rfl (.cons rfl rvs) .nil r2 (DVs.cons q' q2) DVs.nil
          refine wpAny_call (PySem.W.kco_code I2.kIn J hd c1.at_ c1.fn c1.fi (codeAny_mono (F.run X.A X.stack s2 H2 _ Q _ _ hr hgd I2.env0 hbb fun v H3 ⟨r3, l, q3⟩ => ⟨μ2, M2, _, r3, q3, Ans.rebase l a3⟩) fun r s' hq => ?_))
          cases r with
          | error e => exact tk e s' (L2N.XE.of_call I2 (fun _ _ _ z => z) hq)
          | ok fl =>
            cases fl with
            | ret u => exact I2.after hq
            | next => exact False.elim hq
            | brk => exact False.elim hq
            | cont => exact False.elim hq
        · exact a3.elim
      · exact a3.elim
    · exact a3.elim
  | _ => exact a.elim
/-! ### a value that is a def or a class of the module, called -/
def eVal (tb : MTb) (a : FE) (g g' : FA) : FE := fun ρ M => (a ρ M).bind fun x M1 => match x with
  | .gl c => (match tb.lookup c with
    | some G => (g ρ M1).bind fun ds M2 => (g' ρ M2).bind fun es M3 => G ds es M3
    | none => .no)
  | _ => .no
def eValS (tb : MTb) (a b : FE) (g' : FA) : FE := fun ρ M => (a ρ M).bind fun x M1 => match x with
  | .gl c => (match tb.lookup c with
    | some G => (b ρ M1).bind fun d M2 => (g' ρ M2).bind fun es M3 => (match seqA M3 d with
      | some xs => G xs es M3
      | none => .no)
    | none => .no)
  | _ => .no
def VTs_ (X : Cx) (W : WX) (ks : List Str) (tb : MTb) : Prop := ∀ c G, tb.lookup c = some G → PySem.W.keepIn X.K (.ref (He.ga X.K c)) = true ∧ CalM X W (.ref (He.ga X.K c)) ks G
theorem vtb_nil : VTs_ X W ks [] := fun c G h => by cases h
theorem vtb_cons {c : Str} {G : FCal} {tb : MTb} (h0 : PySem.W.keepIn X.K (.ref (He.ga X.K c)) = true) (h1 : CalM X W (.ref (He.ga X.K c)) ks G) (t : VTs_ X W ks tb) : VTs_ X W ks ((c, G) :: tb) := fun b G' h => by
  rw [List.lookup_cons] at h
  split at h
  · rename_i hb
    cases h
    rw [eq_of_beq hb]; exact ⟨h0, h1⟩
  · exact t b G' h
theorem me_val {tb : MTb} (ht : VTs_ X W ks tb) (hf : ME X W fx fe) (ha : MA X W es g) (hkw : MK X W kws g')
    (hall : (backToKw pos (keywordEach kws X.env)).all (·.1.isSome) = true := by rfl) (hks : (backToKw pos (keywordEach kws X.env)).filterMap (·.1) = ks := by rfl) (hl : lone (backTo pos (starEach es X.env)) = false := by rfl)
    (he : eval (.Call fx es kws pos) X.env = (do callWith pos (← eval fx X.env) [] (backTo pos (starEach es X.env)) (backToKw pos (keywordEach kws X.env))) := by rfl) : ME X W (.Call fx es kws pos) (eVal tb fe g g') := by
  refine ⟨fun pins s σ H Q I h => ?_⟩
  rw [he]
  refine wpAny_bind (thn (hf.run pins s σ H _ I (tM.seq (rel := DV X.K) h)) fun u s1 ⟨v, H1, I1, rv, μ, M, ρ, d, r, e, q, a⟩ => ?_)
  cases d with
  | gl c =>
    dsimp only at a
    split at a
    · rename_i G hG
      obtain ⟨hk, c3⟩ := ht c G hG
      have ev := gl_dv q
      subst ev
      obtain rfl : u = Value.ref (He.ga X.K c) := rv
      have a2 := Ans.bind (rel := DVs X.K) a
      refine cw_any (P := fun h => X.K.In h) (PySem.W.keeps_K hk) (ea_gen hl hall (thn (ha.run pos pins s1 σ H1 _ I1 ⟨μ, M, ρ, r, e, a2⟩) fun us s2 ⟨vs, H2, I2, rvs, q2⟩ => ?_))
      obtain ⟨μ2, M2, ds, l2, r2, q2, a3⟩ := q2
      have a4 := Ans.bind (rel := DVs X.K) a3
      refine thn (hkw.run pos pins s2 σ H2 _ I2 ⟨μ2, M2, ρ, r2, e.lift l2, a4⟩) fun ws s3 ⟨zs, H3, I3, rz, q3⟩ => ⟨I3.kIn, ?_⟩
      obtain ⟨μ3, M3, es3, l3, r3, q3, a5⟩ := q3
      dsimp only
      rw [hks]
      exact c3.run pins σ H3 s3 Q us ws vs zs μ3 M3 ds es3 I3 rvs rz r3 (q2.lift l3) q3 a5
    · exact a.elim
  | _ => exact a.elim
theorem me_valS {tb : MTb} {fb : FE} (ht : VTs_ X W ks tb) (hf : ME X W fx fe) (ha : ME X W e fb) (hkw : MK X W kws g')
    (hall : (backToKw pos (keywordEach kws X.env)).all (·.1.isSome) = true := by rfl) (hks : (backToKw pos (keywordEach kws X.env)).filterMap (·.1) = ks := by rfl) (hst : starEach [.Starred e p] X.env = [(true, eval e X.env)] := by rfl)
    (he : eval (.Call fx [.Starred e p] kws pos) X.env = (do callWith pos (← eval fx X.env) [] (backTo pos (starEach [.Starred e p] X.env)) (backToKw pos (keywordEach kws X.env))) := by rfl) : ME X W (.Call fx [.Starred e p] kws pos) (eValS tb fe fb g') := by
  refine ⟨fun pins s σ H Q I h => ?_⟩
  rw [he]
  refine wpAny_bind (thn (hf.run pins s σ H _ I (tM.seq (rel := DV X.K) h)) fun u s1 ⟨v, H1, I1, rv, μ, M, ρ, d, r, e, q, a⟩ => ?_)
  cases d with
  | gl c =>
    dsimp only at a
    split at a
    · rename_i G hG
      obtain ⟨hk, c3⟩ := ht c G hG
      have ev := gl_dv q
      subst ev
      obtain rfl : u = Value.ref (He.ga X.K c) := rv
      have a2 := Ans.bind (rel := DV X.K) a
      rw [hst]
      refine cw_any (P := fun h => X.K.In h) (PySem.W.keeps_K hk) (ea_lone hall (thn (ha.run pins s1 σ H1 _ I1 ⟨μ, M, ρ, r, e, a2⟩) fun u2 s2 ⟨v2, H2, I2, rv2, q2⟩ => ?_))
      obtain ⟨μ2, M2, d2, l2, r2, q2, a3⟩ := q2
      have a4 := Ans.bind (rel := DVs X.K) a3
      refine thn (hkw.run pos pins s2 σ H2 _ I2 ⟨μ2, M2, ρ, r2, e.lift l2, a4⟩) fun ws s3 ⟨zs, H3, I3, rz, q3⟩ => ?_
      obtain ⟨μ3, M3, es3, l3, r3, q3, a5⟩ := q3
      split at a5
      · rename_i xs hx
        obtain ⟨b, ys, ev, sq, dq⟩ := seqA_ok r3 (q2.lift l3) hx
        subst ev
        obtain rfl : u2 = Value.ref b := rv2
        refine StX.star_any I3 sq.symm fun us s4 I4 rus => ⟨I4.kIn, ?_⟩
        dsimp only
        rw [hks]
        exact c3.run pins σ H3 s4 Q us ws ys zs μ3 M3 xs es3 I4 rus rz r3 dq q3 a5
      · exact a5.elim
    · exact a.elim
  | _ => exact a.elim
/-! ### C.m(..), a classmethod -/
def clsF (K : PySem.W.Frag) (c m : Str) : Addr := match PySem.W.recIn K (He.ma K (He.ga K c) m) "classmethod" with
  | some (.ref g :: _) => g
  | _ => 0
/-! ### AugAssign of a name; what is not reached -/
def sNo : FStm := fun _ _ => .no
theorem ms_no {st : Stmt} : MS X W st sNo := ⟨fun pins s σ H D I ⟨μ, M, ρ, r, e, a⟩ => a.elim⟩
theorem me_no : ME X W e (fun _ _ => .no) := ⟨fun pins s σ H Q I ⟨μ, M, ρ, r, e, a⟩ => a.elim⟩
def sAug (i : Nat) (h : F2) (a : FE) : FStm := fun ρ M => SR.of (e2 h (eV i) a ρ M) ρ fun d M1 => .go .nx (ρ.set i (some d)) M1
end
end Br
end
section
namespace Br
open PySem PySem.Spec PyProof.Rows L2
section
variable {X : Cx} {W : WX} {e o fx : Expr} {es : List Expr} {kws : List Keyword} {fo fe : FE} {g g' : FA} {ks : List Str} {x m : Str} {p pos apos : Pos} {body : List Stmt} {rest : List MatchCase}
/-! ### x += e, ints -/
def sAugI (i : Nat) (f : Int → Int → Int) (a : FE) : FStm := fun ρ M => match ρ[i]? with
  | some (some (.int j)) => SR.of (a ρ M) ρ fun d M1 => (match d with
    | .int k => .go .nx (ρ.set i (some (.int (f j k)))) M1
    | _ => .no)
  | _ => .no
theorem ms_augI (i : Nat) {y : Str} {op : Operator} {f : Int → Int → Int} {pos' : Pos} (hN : X.N.Nodup) (hi : X.N[i]? = some y) (hx : Loc X.env.scope y) (he : ME X W e fe) (ho : PIp X op (ipI f)) (hf : X.fn y = true ∨ X.env.scope.names.lookup y = some .local := by first | exact .inl rfl | exact .inr rfl | assumption) :
    MS X W (.AugAssign (.Name y pos') op e pos) (sAugI i f fe) := by
  refine PS.weak (ps_aug hN hi hx he ho hf) fun D σ H ⟨μ, M, ρ, r, e, a⟩ => ?_
  unfold sAugI at a
  split at a
  · rename_i j hj
    obtain ⟨v, h1, h2⟩ := e.at_ i _ hj
    refine ⟨v, h1, ?_⟩
    have h3 := int_dv h2
    subst h3
    refine ⟨μ, M, ρ, r, e, ?_⟩
    cases hf : fe ρ M with
    | ok d M1 =>
      rw [hf] at a
      intro μ' H' y l r' q
      dsimp only [SR.of] at a
      cases d with
      | int k =>
        have hy := int_dv q
        subst hy
        exact ⟨j, k, rfl, rfl, a μ' H' _ l r' ((e.lift l).set (by unfold DV; rfl) i)⟩
      | _ => exact a.elim
    | ex ee M1 => rw [hf] at a; exact fun μ' H' c dd l r' xv => a μ' H' σ c dd l r' (e.lift l) xv
    | no => rw [hf] at a; exact a.elim
  · exact a.elim
/-! ### sorted(ints) -/
def intsOf : List D → Option (List Int)
  | [] => some []
  | .int i :: r => (intsOf r).map (i :: ·)
  | _ => none
theorem intsOf_ok : ∀ {ds : List D} {ns : List Int}, intsOf ds = some ns → ds = ns.map D.int
  | [], ns, h => by cases h; rfl
  | d :: ds, ns, h => by
    cases d with
    | int i =>
      unfold intsOf at h
      cases hr : intsOf ds with
      | none => rw [hr] at h; cases h
      | some r =>
        rw [hr] at h
        cases h
        rw [List.map_cons, intsOf_ok hr]
    | _ => cases h
def srtI (ns : List Int) : List Int := ns.mergeSort fun a b => decide (a ≤ b)
theorem srtI_eq {ns ns' : List Int} (h : ns'.Perm ns) (hp : ns'.Pairwise (· ≤ ·)) : ns' = srtI ns := by
  have h2 : (srtI ns).Perm ns := List.mergeSort_perm ..
  have h3 : (srtI ns).Pairwise (· ≤ ·) := by
    have z := List.pairwise_mergeSort (le := fun a b : Int => decide (a ≤ b)) (fun a b c h1 h2 => by simp at *; omega) (fun a b => by simp; omega) ns
    exact z.imp fun h => by simpa using h
  exact List.Perm.eq_of_pairwise (fun a b _ _ h1 h2 => Int.le_antisymm h1 h2) hp h3 (h.trans h2.symm)
def gSorted : FL := fun ds M => match ds with
  | [d] => (match (seqA M d).bind intsOf with
    | some ns => if ns.length < 64 then .ok (.lst ((srtI ns).map .int)) M else .no
    | none => .no)
  | _ => .no
theorem sorted_tup {prog : Program} {w : World} {A : Around} {E : Value → Shared → Prop} {s : Shared} {l : Addr} {vs : List Value} {ns : List Int} {Q : Value → Shared → Prop} {o : Obj} {n : Nat} (ho : s.heap.get? l = some o) (hc : o.cls = .type "tuple") (hd : o.data = .seq vs.toArray n) (hI : IntsAre vs ns) (h64 : vs.length < 64)
    (h : ∀ (s1 : Shared) (out : Array Value) (ns' : List Int), (∀ b o', s.heap.get? b = some o' → s1.heap.get? b = some o') → s1 = { s with heap := s1.heap } → IntsAre out.toList ns' → ns'.Perm ns → ns'.Pairwise (· ≤ ·) → Q (.ref s1.heap.objs.size) { s1 with heap := sortedHeap (s1.heap.push (seqObj "list" vs.toArray 0)) s1.heap.objs.size vs out }) :
    wpAny (model prog w) A (call (.builtin "sorted") [.ref l]) Q E s := by
  refine Calls.call_function_entry kind_sorted plain_sorted entry_sorted (args_sorted1 _) ?_
  unfold Builtin.«sorted»
  refine wpAny_bind (m := checkCount "sorted" 1 1 _) (wpAny_pure ?_)
  refine wpAny_bind (wpAny_collect_seq l (.inr rfl) ho hc hd (fun h' hk => ?_) (by rw [List.size_toArray, sizeLine_eq]; omega))
  have e0 : vs.toArray.toList = vs := by simp
  rw [e0]
  refine wpAny_bind (wpAny_newList ?_)
  have hoL : (h'.push (seqObj "list" vs.toArray 0)).get? h'.objs.size = some (seqObj "list" vs.toArray 0) := Heap.get?_push_size _ rfl
  show wpAny _ _ _ _ _ { s with heap := h'.push (seqObj "list" vs.toArray 0) }
  refine wpAny_bind (wpAny_holding (wpAny_call_entry slot_list_sort ⟨_, hoL, rfl⟩ entry_list_sort (list_sort_tree hoL hI h64 fun out ns' a1 a2 a3 => ⟨_, rfl, ?_⟩) (args_list_sort _)))
  exact wpAny_pure ⟨_, rfl, h { s with heap := h' } out ns' hk rfl a1 a2 a3⟩
def rSortedA (K : PySem.W.Frag) : List V → Hp → VK → Prop := fun vs H Q => ∃ (a : Addr) (ns : List Int), vs = [V.ref a] ∧ (SqL K H a (ns.map V.int) ∨ SqT K H a (ns.map V.int)) ∧ ns.length < 64 ∧
  ∀ (ns' : List Int) (p : Addr), ns'.Perm ns → ns'.Pairwise (· ≤ ·) → H p = none → Q (.ref p) (upd H p (.lst (ns'.map V.int)))
theorem cr_sortedA : CallR X (.builtin "sorted") (rSortedA X.K) := by
  intro pins s σ H vs us Q I r h
  obtain ⟨a, ns, rfl, hs, h64, q⟩ := h
  rcases hs with hs | hs
  · exact cr_sorted pins s σ H _ us Q I r ⟨a, ns, rfl, hs, h64, q⟩
  · obtain ⟨its, rv, ht, hz⟩ := I.tuple hs
    rw [Vals.ref1 r]
    have hi := rv.ints
    obtain ⟨o, ho, hc, n, hd⟩ := ht
    refine sorted_tup ho hc hd hi (by rw [hi.length]; exact h64) fun s1 out ns' k e h1 h2 h3 => ?_
    have I1 : Inv X pins σ H s1 := by rw [e]; exact I.kept (t' := s.toks) k
    have hoL : (s1.heap.push (seqObj "list" its.toArray 0)).get? s1.heap.objs.size = some (seqObj "list" its.toArray 0) := Heap.get?_push_size _ rfl
    obtain ⟨ep, he'⟩ := PyProof.Rows.sortedHeap_at (vs := its) (out := out) hoL
    have hlen : (ns'.map V.int).length ≤ sizeLine := by rw [List.length_map, h2.length_eq]; exact small64 h64
    exact ⟨.ref _, upd H s1.heap.objs.size (.lst (ns'.map V.int)), I1.laid (t' := s1.toks) (fun b u hb => by
      have := Heap.lt_size hb
      rw [PyProof.Rows.sortedHeap_old (Nat.ne_of_lt this) (by rw [Heap.size_push]; exact Nat.lt_succ_of_lt this)]
      exact Heap.get?_push_of_some _ hb) (Nat.le_refl _) ⟨hlen, out.toList, ep, vals_of_ints h1, he'⟩, rfl, q ns' _ h2 h3 (I1.hok.fresh (Nat.le_refl _))⟩
theorem me_sorted (hg : Gl X "sorted") (hm : X.mg "sorted" = none) (ha : MA X W (e :: es) g)
    (he : starEach (e :: es) X.env = (false, eval e X.env) :: starEach es X.env := by rfl) (hpl : (backTo pos (starEach es X.env)).any (·.1) = false := by rfl) : ME X W (.Call (.Name "sorted" p) (e :: es) [] pos) (eL gSorted g) := by
  refine PE.weak (PE.lock (pe_callB cr_sortedA hg hm (by decide +kernel) ha (by decide) (by decide) he hpl)) fun σ H Q hw => ?_
  refine tM.mono (fun v H1 ⟨μ, M, ρ, d, r, e, q, a1⟩ => ?_) (tM.seq (rel := DVs X.K) hw)
  unfold gSorted at a1
  split at a1
  · rename_i d0
    cases hd : seqA M d0 with
    | none => rw [hd] at a1; exact a1.elim
    | some xs =>
      rw [hd] at a1
      dsimp only [Option.bind] at a1
      split at a1
      · rename_i ns hn
        split at a1
        · rename_i h64
          obtain ⟨v, r', e, q1, q2⟩ := q.inv_cons
          obtain ⟨a, ys, ev, sq, dq⟩ := seqA_ok r q1 hd
          rw [intsOf_ok hn] at dq
          have ey := dq.ints
          subst ey
          rw [e, q2.inv_nil, ev]
          refine ⟨a, ns, rfl, sq, h64, fun ns' p h1 h2 hp => ⟨p, ns'.map V.int, rfl, upd_same, fun o => ?_⟩⟩
          have en := srtI_eq h1 h2
          subst en
          exact ans_lst r (DVs.of_ints _) a1 p hp o
        · exact a1.elim
      · exact a1.elim
  · exact a1.elim
/-! ### C.m(..), a classmethod -/
structure CMethOk (X : Cx) (W : WX) (c m : Str) (ks : List Str) (G : FCal) : Prop where
  ex : ∃ (mc : Value) (p g : Addr) (fd : FuncData) (ps : List Str) (k n : Nat) (gD : List D → List D → List D) (fm : FL), ClX.CRead X.K (He.ga X.K c) mc ∧ ClX.CMet X.K (He.ga X.K c) mc m p g ∧ FnM X.prog X.w X.K X.mg X.base k g fd ps fm ∧ AB X.prog X.w X.K X.mg X.base fd ps n ks gD ∧ Room k X.A ∧ L2N.Takes X W ∧ G = gC n ks.length gD fm
/-- C.m(..) -/
def eCm (c : Str) (G : FCal) (g g' : FA) : FE := fun ρ M => (g ρ M).bind fun ds M2 => (g' ρ M2).bind fun es M3 => G (.gl c :: ds) es M3
theorem me_cm {c : Str} {G : FCal} {pl : Sem Bool} {p0 : Pos} (hG : CMethOk X W c m ks G) (hgd : X.A.guards = some []) (hg : Gl X c) (hm : X.mg c = some (.ref (He.ga X.K c))) (ha : MA X W es g) (hkw : MK X W kws g')
    (hall : (backToKw pos (keywordEach kws X.env)).all (·.1.isSome) = true := by rfl) (hks : (backToKw pos (keywordEach kws X.env)).filterMap (·.1) = ks := by rfl) (hl : lone (backTo pos (starEach es X.env)) = false := by rfl) (hdb : (c == ("__debug__" : Str)) = false := by decide)
    (he : eval (.Call (.Attribute (.Name c p0) m apos) es kws pos) X.env = (do
      let ov ← eval (.Name c p0) X.env
      standAt apos.atName
      let (f, first) ← holding [ov] (getMethod ov m pl)
      callWith pos f first (backTo pos (starEach es X.env)) (backToKw pos (keywordEach kws X.env))) := by rfl) : ME X W (.Call (.Attribute (.Name c p0) m apos) es kws pos) (eCm c G g g') := by
  refine ⟨fun pins s σ H Q I h => ?_⟩
  obtain ⟨mc, p, ga, fd, ps, k, n, gD, fm, c1, c2, F, hb, hr, tk, rfl⟩ := hG.ex
  have h2 := tM.seq (rel := DVs X.K) h
  refine PySem.W.methodCall_KW (pl := pl) (thn ((me_gl (W := W) hg hm hdb).run pins s σ H (fun v H1 => v = .ref (He.ga X.K c) ∧ tM X.K (DVs X.K) W g σ H1 (fun vs H2 => ∃ μ M ρ d, Rel X.K μ M H2 ∧ EV X.K μ M.length H2 ρ σ ∧ DVs X.K μ M.length H2 d vs ∧ Ans X.K (DV X.K) (fun c d H' => W c d σ H') μ M.length H2 ((g' ρ M).bind fun es M3 => gC n ks.length gD fm (.gl c :: d) es M3) Q)) I ?_) fun u s1 ⟨v, H1, I1, rv, ev, h3⟩ => ?_) he
  · obtain ⟨μ, M, ρ, r, e, a⟩ := h2
    exact ⟨μ, M, ρ, r, e, fun μ' H' v l r' q => ⟨gl_dv q, μ', M, ρ, r', e.lift l, Ans.rebase l a⟩⟩
  · subst ev
    obtain rfl : u = Value.ref (He.ga X.K c) := rv
    refine ClX.getmethcm_ok I1 c1 c2 fun s2 I2 => ?_
    refine cw_any (P := fun h => PySem.W.MethP X.K s1.heap.objs.size ga (.ref (He.ga X.K c)) h) (PySem.W.keeps_M c2.fi) (ea_gen hl hall (thn (ha.run pos _ s2 σ H1 _ I2 h3) fun us s3 ⟨vs, H3, I3, rvs, μ, M, ρ, ds, r, e, q, a⟩ => ?_))
    have a2 := Ans.bind (rel := DVs X.K) a
    refine thn (hkw.run pos _ s3 σ H3 _ I3 ⟨μ, M, ρ, r, e, a2⟩) fun ws s4 ⟨zs, H4, I4, rz, μ4, M4, es4, l4, r4, q4, a4⟩ => ⟨⟨ClX.pin_at I4, I4.kIn⟩, ?_⟩
    dsimp only
    rw [hks]
    unfold gC at a4
    split at a4
    · rename_i hl
      have qc : DV X.K μ4 M4.length H4 (.gl c) (V.ref (He.ga X.K c)) := by unfold DV; rfl
      have hbb := hb.bnd X.A X.stack s4 H4 (fun c d H' => W c d σ H') (Value.ref (He.ga X.K c) :: us) ws (V.ref (He.ga X.K c) :: vs) zs μ4 M4 (.gl c :: ds) es4 I4.env0 (by rw [← hl.1, List.length_cons, List.length_cons, ← rvs.length, q.length]) (by rw [← rz.length, q4.length, hl.2]) (.cons rfl rvs) rz r4 (DVs.cons qc (q.lift l4)) q4
      refine thn (Q := EP X ((s1.heap.objs.size, PySem.W.methodObj (.ref ga) (.ref (He.ga X.K c))) :: pins) σ Q) (wpAny_call (PySem.W.method_call (ClX.pin_at I4) (codeAny_mono (F.run X.A X.stack s4 H4 _ Q _ _ hr hgd I4.env0 hbb fun v H5 ⟨r5, l5, q5⟩ => ⟨μ4, M4, _, r5, q5, Ans.rebase l5 a4⟩) fun r s' hq => ?_))) fun _ _ y => ClX.unpinE y
      cases r with
      | error e => exact tk e s' (L2N.XE.of_call I4 (fun _ _ _ z => z) hq)
      | ok fl =>
        cases fl with
        | ret u => exact I4.after hq
        | next => exact False.elim hq
        | brk => exact False.elim hq
        | cont => exact False.elim hq
    · exact a4.elim
end
end Br
end
section
namespace Br
open PySem PySem.Spec PyProof.Rows L2
/-! ### a dict of the module: texts by plain values, defs, classes -/
def flatV (K : PySem.W.Frag) : D → Option V
  | .non => some .non
  | .bl b => some (.bl b)
  | .int i => some (.int i)
  | .str x => some (.str x)
  | .gl x => some (.ref (He.ga K x))
  | .ty t => some (.ty t)
  | _ => none
theorem flatV_dv {K : PySem.W.Frag} {d : D} {v : V} (h : flatV K d = some v) (μ : Nat → Addr) (N : Nat) (H : Hp) : DV K μ N H d v := by
  cases d <;> first | (cases h; unfold DV; rfl) | cases h
structure KSD (K : PySem.W.Frag) (w : World) (name : Str) (kvs : List (Str × D)) : Prop where
  kd : ∃ es n, KDict K w (He.ga K name) es n
  get : ∀ z, match kvs.lookup z with
    | some d => ∃ v u, flatV K d = some v ∧ PySem.W.nsIn K (He.ga K name) z = some (some u) ∧ RelV v u
    | none => PySem.W.nsIn K (He.ga K name) z = some none
def dvD : D → He.Dv
  | .non => .non
  | .bl b => .bl b
  | .int i => .int i
  | .str x => .str x
  | .gl x => .glo x
  | .ty t => .ty t
  | _ => .non
def flatOk : D → Bool
  | .tup _ => false
  | .lst _ => false
  | .ref _ => false
  | .ptp _ => false
  | .exc _ _ _ => false
  | .adr _ _ => false
  | _ => true
theorem dvD_ok {K : PySem.W.Frag} {d : D} (h : flatOk d = true) : flatV K d = some ((dvD d).v K) := by cases d <;> first | rfl | cases h
theorem lookup_none {α : Type} {l : List (Str × α)} {z : Str} (h : l.lookup z = none) : z ∉ l.map (·.1) := by
  induction l with
  | nil => simp
  | cons p l ih =>
    rw [List.lookup_cons] at h
    split at h
    · cases h
    · rename_i hne
      rw [List.map_cons, List.mem_cons]
      rintro (e | e)
      · rw [e] at hne; simp at hne
      · exact ih h e
theorem lookup_some {α : Type} {l : List (Str × α)} {z : Str} {a : α} (h : l.lookup z = some a) : (z, a) ∈ l := by
  induction l with
  | nil => cases h
  | cons p l ih =>
    rw [List.lookup_cons] at h
    split at h
    · rename_i hz
      cases h
      rw [eq_of_beq hz]; exact List.mem_cons_self ..
    · exact List.mem_cons_of_mem _ (ih h)
theorem ksd_of {K : PySem.W.Frag} {w : World} {name : Str} {kvs : List (Str × D)} (h : He.dicW K (He.ga K name) = some (He.keysIn w.params (kvs.map (·.1)))) (hv : (kvs.all fun q => flatOk q.2) = true ∧ He.valsB K (He.ga K name) (kvs.map fun q => (q.1, dvD q.2)) = true) : KSD K w name kvs := by
  refine ⟨He.dicW_ok h, fun z => ?_⟩
  cases e : kvs.lookup z with
  | none => exact ns_none h (lookup_none e)
  | some d =>
    have hm := lookup_some e
    obtain ⟨u, h1, h2⟩ := He.valsB_ok hv.2 (q := (z, dvD d)) (List.mem_map.mpr ⟨(z, d), hm, rfl⟩)
    exact ⟨_, u, dvD_ok (List.all_eq_true.mp hv.1 (z, d) hm), h1, h2⟩
section
variable {X : Cx} {W : WX} {e o fx f : Expr} {es : List Expr} {fo fe ff : FE} {g g' : FA} {x : Str} {p pos apos cpos : Pos} {name : Str} {kvs : List (Str × D)}
def eKGet (name : Str) (kvs : List (Str × D)) (a b : FE) : FE := fun ρ M => (a ρ M).bind fun k M1 => (b ρ M1).bind fun d M2 => match k with
  | .str z => .ok ((kvs.lookup z).getD d) M2
  | _ => .no
theorem me_kget {p0 : Pos} (T : KSD X.K X.w name kvs) (hg : Gl X name) (hm : X.mg name = some (.ref (He.ga X.K name))) (he : ME X W e fe) (hf : ME X W f ff) (m : M2 X (.Name name p0) "get" apos e f cpos) (hdb : (name == ("__debug__" : Str)) = false := by decide) :
    ME X W (.Call (.Attribute (.Name name p0) "get" apos) [e, f] [] cpos) (eKGet name kvs fe ff) := by
  refine ⟨fun pins s σ H Q I h => ?_⟩
  obtain ⟨es, n, kd⟩ := T.kd
  have h2 := tM.seq (rel := DV X.K) h
  refine wpAny_Call_method m.base m.few m.line PySem.F.plainAttrs_dict PySem.F.slot_dict_get PySem.F.type_dict_get (thn ((me_gl (W := W) hg hm hdb).run pins s σ H (fun v H1 => v = .ref (He.ga X.K name) ∧ tM X.K (DV X.K) W fe σ H1 (fun v H2 => ∃ μ M ρ d, Rel X.K μ M H2 ∧ EV X.K μ M.length H2 ρ σ ∧ DV X.K μ M.length H2 d v ∧ Ans X.K (DV X.K) (fun c d H' => W c d σ H') μ M.length H2 ((ff ρ M).bind fun d' M2 => match d with
      | .str z => .ok ((kvs.lookup z).getD d') M2
      | _ => .no) Q)) I ?_) fun u s1 ⟨v, H1, I1, rv, ev, h3⟩ => ?_)
  · obtain ⟨μ, M, ρ, r, e, a⟩ := h2
    exact ⟨μ, M, ρ, r, e, fun μ' H' v l r' q => ⟨gl_dv q, μ', M, ρ, r', e.lift l, Ans.rebase l a⟩⟩
  · subst ev
    obtain rfl : u = Value.ref (He.ga X.K name) := rv
    have hmp := PySem.W.mapOf_K (prog := X.prog) (w := X.w) I1.kIn kd.at_ kd.lit
    refine ⟨hmp.typeIs, fun b q => ?_, ?_⟩
    · cases q
      exact ⟨_, I1.kIn _ _ kd.at_, rfl⟩
    rw [m.trees]
    refine Calls.callWith_builtin rfl (Calls.evalArgs_plain (Calls.spliced_cons (thn (he.run pins s1 σ H1 _ I1 h3) fun iv s2 ⟨y, H2, I2, ry, μ, M, ρ, d, r, ev, q, a⟩ => ?_)))
    have a2 := Ans.bind (rel := DV X.K) a
    refine Calls.spliced_cons (thn (hf.run pins s2 σ H2 _ I2 ⟨μ, M, ρ, r, ev, a2⟩) fun fv s3 ⟨z, H3, I3, rz, μ3, M3, d3, l3, r3, q3, a3⟩ => Calls.spliced_nil ?_)
    cases d with
    | str k =>
      have hy := str_dv q
      subst hy
      obtain ⟨t, rfl⟩ := ry
      have hmp3 := PySem.W.mapOf_K (prog := X.prog) (w := X.w) I3.kIn kd.at_ kd.lit
      refine call_meetsIn PySem.F.slot_dict_get hmp3.typeIs PySem.F.entry_dict_get (PySem.F.args_dict_get_3 _ _ _) (meets_dict_get_default (strKind X.prog X.w) (He.ga X.K name) (strKind_is X.prog X.w k t) kd.low fv) ⟨_, hmp3, ?_⟩
      have hk := T.get k
      dsimp only at a3
      cases hl : kvs.lookup k with
      | none =>
        rw [hl] at hk a3
        rw [PySem.W.find_K kd.at_ hk]
        exact ⟨z, H3, I3.tok _, rz, a3 μ3 H3 z (Lift.refl ..) r3 q3⟩
      | some dd =>
        rw [hl] at hk a3
        obtain ⟨v, u, h4, h5, h6⟩ := hk
        rw [PySem.W.find_K kd.at_ h5]
        exact ⟨v, H3, I3.tok _, h6, a3 μ3 H3 v (Lift.refl ..) r3 (flatV_dv h4 _ _ _)⟩
    | _ => exact a3.elim
/-! ### case 'a' | 'b' -/
def cO (fs : List FE) (g : FStm) (r : D → FStm) : D → FStm := match fs with
  | [] => r
  | f :: fs => fun d ρ M => SR.of (f ρ M) ρ fun y M1 => match eqD M1 d y with
    | some true => g ρ M1
    | some false => cO fs g r d ρ M1
    | none => .no
/-- patterns that are values -/
structure PtV (X : Cx) (W : WX) (ps : List Pattern) (fs : List FE) : Prop where
  run : ∀ (pins : List (Addr × Obj)) (s : Shared) (σ : L2.St) (H : Hp) (D_ : Ends) (v : V) (u : Value) (μ : Nat → Addr) (M : Mem) (ρ : En) (d : D) (g : FStm) (r : D → FStm), Inv X pins σ H s → RelV v u → Rel X.K μ M H → EV X.K μ M.length H ρ σ → DV X.K μ M.length H d v → AnsS X.K W μ M.length H (cO fs g r d ρ M) D_ →
    wpAny (model X.prog X.w) X.A (matchFirst ps X.env u) (fun b s1 => ∃ (H1 : Hp) (μ1 : Nat → Addr) (M1 : Mem), Inv X pins σ H1 s1 ∧ Rel X.K μ1 M1 H1 ∧ EV X.K μ1 M1.length H1 ρ σ ∧ DV X.K μ1 M1.length H1 d v ∧ ((b = some [] ∧ AnsS X.K W μ1 M1.length H1 (g ρ M1) D_) ∨ (b = none ∧ AnsS X.K W μ1 M1.length H1 (r d ρ M1) D_))) X.xe s
theorem ptv_nil : PtV X W [] [] := ⟨fun pins s σ H D v u μ M ρ d g r I rv rl e q a => wpAny_matchFirst_nil ⟨H, μ, M, I, rl, e, q, .inr ⟨rfl, a⟩⟩⟩
theorem ptv_cons {ps : List Pattern} {fs : List FE} (hu : X.A.units + 64 < cLine) (he : ME X W e fe) (hr : PtV X W ps fs) : PtV X W (.MatchValue e pos :: ps) (fe :: fs) := by
  refine ⟨fun pins s σ H D v u μ M ρ d g r I rv rl ev q a => ?_⟩
  refine wpAny_matchFirst_cons (wpAny_matchPattern_Value ?_)
  unfold cO at a
  have h0 : tM X.K (DV X.K) W fe σ H (fun v1 H1 => ∃ μ1 M1 d1, Rel X.K μ1 M1 H1 ∧ EV X.K μ1 M1.length H1 ρ σ ∧ DV X.K μ1 M1.length H1 d v ∧ DV X.K μ1 M1.length H1 d1 v1 ∧ AnsS X.K W μ1 M1.length H1 (match eqD M1 d d1 with
      | some true => g ρ M1
      | some false => cO fs g r d ρ M1
      | none => .no) D) := by
    refine ⟨μ, M, ρ, rl, ev, ?_⟩
    cases hf : fe ρ M with
    | no => rw [hf] at a; exact a.elim
    | ex x M1 => rw [hf] at a; exact fun μ' H' c dd l r' x' => a μ' H' σ c dd l r' (ev.lift l) x'
    | ok d1 M1 =>
      rw [hf] at a
      exact fun μ1 H1 v1 l r1 q1 => ⟨μ1, M1, d1, r1, ev.lift l, q.lift l, q1, AnsS.rebase l a⟩
  refine thn (he.run pins s σ H _ I h0) fun x s1 ⟨v1, H1, I1, r1, μ1, M1, d1, rl1, ev1, q1, q2, a1⟩ => ?_
  cases hk : eqD M1 d d1 with
  | none => rw [hk] at a1; exact a1.elim
  | some k =>
    rw [hk] at a1
    refine thn (om_eq hu (fun _ _ _ => False) pins s1 σ H1 v v1 u x (fun z H2 => z = .bl k ∧ ∃ μ2, Rel X.K μ2 M1 H2 ∧ EV X.K μ2 M1.length H2 ρ σ ∧ DV X.K μ2 M1.length H2 d v ∧ AnsS X.K W μ2 M1.length H2 (match some k with
      | some true => g ρ M1
      | some false => cO fs g r d ρ M1
      | none => .no) D) I1 rv r1 ?_) fun c s2 ⟨z, H2, I2, rz, e1, μ2, r2, ev2, q3, a2⟩ => ?_
    · refine ⟨μ1, M1, d, d1, rl1, q1, q2, ?_⟩
      unfold gEq; rw [hk]
      exact fun μ2 H2 z l r2 qz => ⟨bl_dv qz, μ2, r2, ev1.lift l, q1.lift l, AnsS.rebase l a1⟩
    · subst e1
      cases rz
      refine wpAny_truthy_bool ?_
      cases k with
      | true =>
        rw [if_pos rfl]
        exact ⟨H2, μ2, M1, I2, r2, ev2, q3, .inl ⟨rfl, a2⟩⟩
      | false =>
        rw [if_neg (by decide)]
        exact hr.run pins s2 σ H2 D v u μ2 M1 ρ d g r I2 rv r2 ev2 q3 a2
theorem mc_or {ps : List Pattern} {fs : List FE} {body : List Stmt} {rest : List MatchCase} {gb : FStm} {r : D → FStm} (hp : PtV X W ps fs) (hb : MSs X W body gb) (hr : MC X W rest r) (hn : namesOfAll (ps.take 1) = [] := by rfl) : MC X W (⟨.MatchOr ps pos, none, body⟩ :: rest) (cO fs gb r) := by
  refine ⟨fun pins s σ H D v u b I rv ⟨μ, M, ρ, d, rl, ev, q, a⟩ => ?_⟩
  refine wpAny_matchCases_cons (wpAny_matchPattern_Or ?_)
  refine thn (hp.run pins s σ H D v u μ M ρ d gb r I rv rl ev q a) fun b s1 ⟨H1, μ1, M1, I1, r1, ev1, q1, h⟩ => ?_
  rcases h with ⟨rfl, a1⟩ | ⟨rfl, a1⟩
  · dsimp only
    rw [hn]
    show wpAny _ _ (assignInOrder [] []) _ _ _
    exact wpAny_assignInOrder_none (hb.run pins s1 σ H1 D I1 ⟨μ1, M1, ρ, r1, ev1, a1⟩)
  · exact hr.run pins s1 σ H1 D v u false I1 rv ⟨μ1, M1, ρ, d, r1, ev1, q1, a1⟩
end
/-! ### is not None -/
theorem om_notN {X : Cx} : OpM X (compareOp .IsNot) (gIsN false) := by
  intro W pins s σ H x y v u Q I rx ry ⟨μ, M, a, b, r, qa, qb, an⟩
  unfold gIsN at an
  split at an
  · have hy := non_dv qb
    subst hy
    refine op_notN pins s σ H x _ v u Q I rx ry ⟨rfl, ?_⟩
    split at an
    · rw [non_dv qa]; exact ans_pure r dv_bl an
    · rename_i hne
      have : x ≠ .non := fun e => by
        subst e
        cases a with
        | non => exact hne rfl
        | bl b => cases bl_dv qa
        | int b => cases int_dv qa
        | str b => cases str_dv qa
        | ty b => cases ty_dv qa
        | ptp b => unfold DV at qa; obtain ⟨_, _, _, e, _⟩ := qa; cases e
        | exc b c d => unfold DV at qa; obtain ⟨_, _, _, _, _, e, _⟩ := qa; cases e
        | adr b c => unfold DV at qa; cases qa.1
        | tup ds => obtain ⟨_, _, e, _⟩ := tup_dv qa; cases e
        | lst ds => obtain ⟨_, _, e, _⟩ := lst_dv qa; cases e
        | ref n => cases (ref_dv qa).2
        | gl x => unfold DV at qa; cases qa
      rw [decide_eq_false this]
      exact ans_pure r dv_bl an
  · exact an.elim
end Br
/-! ### a head that reads getters, classmethods, tables -/
namespace BrH
open PySem PySem.Spec PyProof.Rows L2 He
abbrev AlY : Type := (AlD × List (Option (List (Option (Str × Int))))) × Bool
def obsK (fa : List Fa) (fn : List He5.DefA) (ts : List Tab) (ex : PySem.W.Frag → Bool) (K : PySem.W.Frag) : AlY := ((He5.obsA fa fn K, ts.map fun t => dicW K (t.1 K)), ex K)
def valY (fn : List He5.DefA) (ts : List Tab) (w : World) : AlY := ((He5.valA fn, ts.map fun t => some (keysIn w.params t.2)), true)
structure SaysY (fa : List Fa) (fn : List He5.DefA) (ts : List Tab) (ex : PySem.W.Frag → Bool) (w : World) (K : PySem.W.Frag) : Prop where
  d : He5.SaysA fa fn K
  t : ts.map (fun t => dicW K (t.1 K)) = ts.map fun t => some (keysIn w.params t.2)
  more : ex K = true
/-- what the names reach in n steps, step by step -/
def frD (g : Addr → Option Obj) (as : List Addr) : List Addr := as.flatMap fun a => match g a with
  | some o => refsD o
  | none => []
def asF (g : Addr → Option Obj) : Nat → List Addr → List Addr
  | 0, fr => fr
  | n + 1, fr => fr ++ asF g n (frD g fr)
def asY (g : Addr → Option Obj) (n : Nat) : List Addr := asF g n [mainGlobals] ++ [cStatics]
def obsY (n : Nat) (fa : List Fa) (fn : List He5.DefA) (ts : List Tab) (ex : PySem.W.Frag → Bool) (g : Addr → Option Obj) : AlY := obsK fa fn ts ex (frT g (asY g n))
theorem saysY_of {fa : List Fa} {fn : List He5.DefA} {ts : List Tab} {ex : PySem.W.Frag → Bool} {w : World} {K : PySem.W.Frag} (e : obsK fa fn ts ex K = valY fn ts w) : SaysY fa fn ts ex w K :=
  ⟨congrArg (fun z : AlY => z.1.1) e, congrArg (fun z : AlY => z.1.2) e, congrArg (fun z : AlY => z.2) e⟩
def hookY (n : Nat) (fa : List Fa) (fn : List He5.DefA) (ts : List Tab) (ex : PySem.W.Frag → Bool) : PySem.W.Hook where
  α := AlY
  obs := fun s => obsY n fa fn ts ex s.heap.get?
  val := fun w => valY fn ts w
  says := fun w h => ∃ K : PySem.W.Frag, K.In h ∧ SaysY fa fn ts ex w K
  of := fun _ _ e => ⟨_, frT_in, saysY_of e⟩
  keeps := fun _ _ _ ⟨K, hK, c⟩ k => ⟨K, PySem.W.Frag.In.keeps hK k, c⟩
theorem obsY_eq {n : Nat} {fa : List Fa} {fn : List He5.DefA} {ts : List Tab} {ex : PySem.W.Frag → Bool} {g : Addr → Option Obj} {s : Shared} (h : ∀ a, g a = s.heap.get? a) : obsY n fa fn ts ex g = (hookY n fa fn ts ex).obs s := by
  have e : g = s.heap.get? := funext h
  rw [e] <;> rfl
theorem SaysY.tab {fa : List Fa} {fn : List He5.DefA} {ts : List Tab} {ex : PySem.W.Frag → Bool} {w : World} {K : PySem.W.Frag} (c : SaysY fa fn ts ex w K) (i : Nat) {t : Tab} (h : ts[i]? = some t) : dicW K (t.1 K) = some (keysIn w.params t.2) := by
  have e2 := congrArg (fun l => l[i]?) c.t
  simp only [List.getElem?_map, h, Option.map_some] at e2
  exact Option.some.inj e2
end BrH
namespace BrH
open PySem PySem.Spec PyProof.Rows L2 He Br
def propB (K : PySem.W.Frag) (C : Addr) (f : Str) : Bool := eqO (PySem.W.findIn K (.ref C) f) (some (some (.ref (ma K C f)))) && (eqO (PySem.W.specialIn K (.ref (ma K C f)) "__get__") (some (some (.builtin "property.__get__"))) && (decide (PySem.W.takesIn K (.ref (ma K C f)) = some true) && (match PySem.W.recIn K (ma K C f) "property" with
    | some (.ref _ :: _) => true
    | _ => false)))
theorem propB_ok {K : PySem.W.Frag} {C : Addr} {f : Str} (h : propB K C f = true) : PropOf K C f (ma K C f) (He5.wf K C "property" f) := by
  obtain ⟨h1, h⟩ := ba h
  obtain ⟨h2, h⟩ := ba h
  obtain ⟨h3, h4⟩ := ba h
  refine ⟨eqO_ok h1, eqO_ok h2, of_decide_eq_true h3, ?_⟩
  unfold He5.wf
  split at h4
  · rename_i g r e
    exact ⟨r, by rw [e]⟩
  · cases h4
def cmetB (K : PySem.W.Frag) (C : Addr) (m : Str) : Bool := PySem.W.readsIn K C (.type "type") && (eqO (PySem.W.specialIn K (.ref C) "__getattribute__") (some (some (.builtin "type.__getattribute__"))) && (He5.wrapB K C "classmethod" "classmethod.__get__" m && PySem.W.fnIn K (He5.wf K C "classmethod" m)))
theorem cmetB_ok {K : PySem.W.Frag} {C : Addr} {m : Str} (h : cmetB K C m = true) : ClX.CRead K C (.type "type") ∧ ClX.CMet K C (.type "type") m (ma K C m) (He5.wf K C "classmethod" m) := by
  obtain ⟨h1, h⟩ := ba h
  obtain ⟨h2, h⟩ := ba h
  obtain ⟨h3, h4⟩ := ba h
  exact ⟨⟨h1, eqO_ok h2⟩, He5.cmet_of h3 h4⟩
def calB (K : PySem.W.Frag) (C : Addr) : Bool := eqO (PySem.W.findIn K (.ref C) "__call__") (some (some (.ref (ma K C "__call__")))) && (PySem.W.isFn K (.ref (ma K C "__call__")) && PySem.W.fnIn K (ma K C "__call__"))
theorem calB_ok {K : PySem.W.Frag} {C : Addr} (h : calB K C = true) : StX.CallO K C (ma K C "__call__") := by
  obtain ⟨h1, h⟩ := ba h
  obtain ⟨h2, h3⟩ := ba h
  exact ⟨eqO_ok h1, h2, h3⟩
theorem strs_v {K : PySem.W.Frag} : ∀ l : List Str, (l.map He.Dv.str).map (He.Dv.v K) = l.map V.str
  | [] => rfl
  | x :: l => by rw [List.map_cons, List.map_cons, List.map_cons, strs_v l]; rfl
theorem tupS_ok {K : PySem.W.Frag} {x : Str} {l : List Str} (h : tupB K x (l.map He.Dv.str) = true) (μ : Nat → Addr) (N : Nat) (H : Hp) : ∃ vs, SqT K H (ga K x) vs ∧ DVs K μ N H (l.map D.str) vs :=
  ⟨_, tupB_ok h H, by rw [strs_v]; exact DVs.of_strs l⟩
theorem map3 {α β γ δ : Type} {o : Option α} {f : α → β} {g : α → γ} {h : α → δ} {b : β} {c : γ} {d : δ} (h1 : o.map f = some b) (h2 : o.map g = some c) (h3 : o.map h = some d) : o.map (fun s => (f s, g s, h s)) = some (b, c, d) := by
  cases o with
  | none => cases h1
  | some a => cases h1; cases h2; cases h3; rfl
def NoKLB (K : PySem.W.Frag) : Bool := K.all fun p => !(p.2.cls == .type "list")
theorem nokl_ok {K : PySem.W.Frag} (h : NoKLB K = true) : NoKL K := fun a o e c => by
  have := List.all_eq_true.mp h (a, o) (He.lookup_mem e)
  rw [c] at this
  exact absurd this (by decide)
theorem ex_at {exs : List (PySem.W.Frag → Bool)} {K : PySem.W.Frag} (h : (exs.all fun b => b K) = true) (i : Nat) {b : PySem.W.Frag → Bool} (e : exs[i]? = some b) : b K = true := List.all_eq_true.mp h b (List.mem_of_getElem? e)
end BrH
end
section
namespace Br
open PySem PySem.Spec PyProof.Rows L2
/-! ### dicts of the memory -/
def keyD : D → Option Key
  | .int i => some (.inl i)
  | .str z => some (.inr z)
  | _ => none
theorem key_dv {K : PySem.W.Frag} {μ : Nat → Addr} {N : Nat} {H : Hp} {d : D} {v : V} {k : Key} (h : keyD d = some k) (q : DV K μ N H d v) : v = kV k := by
  cases d <;> cases h
  · exact int_dv q
  · exact str_dv q
/-- what stands under a key -/
def valD (kvs : List (Key × D)) (k : Key) : Option D := (kvs.find? fun p => decide (p.1 = k)).map (·.2)
def putKD (kvs : List (Key × D)) (k : Key) (d : D) : List (Key × D) :=
  if (kvs.any fun p => decide (p.1 = k)) = true then kvs.map (fun p => if p.1 = k then (p.1, d) else p) else kvs ++ [(k, d)]
section
variable {K : PySem.W.Frag} {μ : Nat → Addr} {N : Nat} {H : Hp}
theorem KVs.find (k : Key) : ∀ {kvs : List (Key × D)} {ps : List (Key × V)}, KVs K μ N H kvs ps → (valD kvs k = none ∧ valV ps k = none) ∨ ∃ d v, valD kvs k = some d ∧ valV ps k = some v ∧ DV K μ N H d v
  | [], ps, h => by cases h; exact .inl ⟨rfl, rfl⟩
  | p :: kvs, ps, h => by
    obtain ⟨v, r, e, h1, h2⟩ := h
    subst e
    by_cases hk : p.1 = k
    · refine .inr ⟨p.2, v, by simp [valD, List.find?_cons, hk], valV_pos hk, h1⟩
    · have e1 : valD (p :: kvs) k = valD kvs k := by simp [valD, List.find?_cons, hk]
      rw [e1, valV_neg hk]
      exact KVs.find k h2
theorem KVs.anyK (k : Key) : ∀ {kvs : List (Key × D)} {ps : List (Key × V)}, KVs K μ N H kvs ps → (kvs.any fun p => decide (p.1 = k)) = ps.any fun p => decide (p.1 = k)
  | [], ps, h => by cases h; rfl
  | p :: kvs, ps, h => by
    obtain ⟨v, r, e, h1, h2⟩ := h
    subst e
    rw [List.any_cons, List.any_cons, KVs.anyK k h2]
theorem KVs.len : ∀ {kvs : List (Key × D)} {ps : List (Key × V)}, KVs K μ N H kvs ps → ps.length = kvs.length
  | [], ps, h => by cases h; rfl
  | p :: kvs, ps, h => by
    obtain ⟨v, r, e, h1, h2⟩ := h
    subst e
    rw [List.length_cons, List.length_cons, KVs.len h2]
theorem KVs.mapP (k : Key) {d : D} {v : V} (q : DV K μ N H d v) : ∀ {kvs : List (Key × D)} {ps : List (Key × V)}, KVs K μ N H kvs ps → KVs K μ N H (kvs.map fun p => if p.1 = k then (p.1, d) else p) (ps.map fun p => if p.1 = k then (p.1, v) else p)
  | [], ps, h => by cases h; rfl
  | p :: kvs, ps, h => by
    obtain ⟨w, r, e, h1, h2⟩ := h
    subst e
    have ih := KVs.mapP k q h2
    rw [List.map_cons, List.map_cons]
    by_cases hk : p.1 = k
    · rw [if_pos hk, if_pos hk]; exact ⟨v, _, rfl, q, ih⟩
    · rw [if_neg hk, if_neg hk]; exact ⟨w, _, rfl, h1, ih⟩
theorem KVs.snoc (k : Key) {d : D} {v : V} (q : DV K μ N H d v) : ∀ {kvs : List (Key × D)} {ps : List (Key × V)}, KVs K μ N H kvs ps → KVs K μ N H (kvs ++ [(k, d)]) (ps ++ [(k, v)])
  | [], ps, h => by cases h; exact ⟨v, [], rfl, q, rfl⟩
  | p :: kvs, ps, h => by
    obtain ⟨w, r, e, h1, h2⟩ := h
    subst e
    exact ⟨w, _, rfl, h1, KVs.snoc k q h2⟩
theorem KVs.putK (k : Key) {d : D} {v : V} (q : DV K μ N H d v) {kvs : List (Key × D)} {ps : List (Key × V)} (h : KVs K μ N H kvs ps) : KVs K μ N H (putKD kvs k d) (L2.putK ps k v) := by
  unfold putKD L2.putK
  rw [← h.anyK k]
  split
  · exact h.mapP k q
  · exact h.snoc k q
end
/-- k in d, k not in d; d[k] -/
def gDIn (neg : Bool) : F2 := fun y x M => match keyD y, x with
  | some k, .ref n => (match M[n]? with
    | some (.dic kvs) => .ok (.bl (if neg then !(valD kvs k).isSome else (valD kvs k).isSome)) M
    | _ => .no)
  | _, _ => .no
def gDIx : F2 := fun x y M => match x, keyD y with
  | .ref n, some k => (match M[n]? with
    | some (.dic kvs) => (match valD kvs k with
      | some d => .ok d M
      | none => .no)
    | _ => .no)
  | _, _ => .no
section
variable {X : Cx} {W : WX} {e o i a : Expr} {fo fi fa : FE} {apos cpos pos : Pos}
theorem om_dIn (hu : X.A.units + 1 < cLine) : OpM X (compareOp .In) (gDIn false) := by
  intro W pins s σ H x y v u Q I rx ry ⟨μ, M, a, b, r, qa, qb, an⟩
  unfold gDIn at an
  split at an
  · rename_i k n hk
    split at an
    · rename_i kvs hn
      obtain ⟨hl, ev⟩ := ref_dv qb
      subst ev
      cases ry
      obtain ⟨ps, hp, hkv⟩ := r.obj n _ hn
      rw [key_dv hk qa] at rx
      refine d_in hu I (DGet.k hp) rx fun s' I' => ?_
      have e : (valD kvs k).isSome = (valV ps k).isSome := by
        rcases hkv.find k with ⟨h1, h2⟩ | ⟨d, w, h1, h2, _⟩ <;> simp [h1, h2]
      rw [← e]
      exact ⟨.bl _, H, I', rfl, ans_pure r dv_bl an⟩
    · exact an.elim
  · exact an.elim
theorem om_dNotIn (hu : X.A.units + 1 < cLine) : OpM X (compareOp .NotIn) (gDIn true) := by
  intro W pins s σ H x y v u Q I rx ry ⟨μ, M, a, b, r, qa, qb, an⟩
  unfold gDIn at an
  split at an
  · rename_i k n hk
    split at an
    · rename_i kvs hn
      obtain ⟨hl, ev⟩ := ref_dv qb
      subst ev
      cases ry
      obtain ⟨ps, hp, hkv⟩ := r.obj n _ hn
      rw [key_dv hk qa] at rx
      refine d_notIn hu I (DGet.k hp) rx fun s' I' => ?_
      have e : (valD kvs k).isSome = (valV ps k).isSome := by
        rcases hkv.find k with ⟨h1, h2⟩ | ⟨d, w, h1, h2, _⟩ <;> simp [h1, h2]
      rw [← e]
      exact ⟨.bl _, H, I', rfl, ans_pure r dv_bl an⟩
    · exact an.elim
  · exact an.elim
theorem me_dix (hu : X.A.units + 1 < cLine) (ho : ME X W o fo) (hi : ME X W i fi) (hs : NoSl i) : ME X W (.Subscript o i pos) (e2 gDIx fo fi) := by
  refine PE.weak (pe_dget hu ho hi hs) fun σ H Q h => ?_
  refine tM.mono (fun v H1 ⟨μ, M, ρ, d, r, e, q, a1⟩ => ?_) (tM.seq (rel := DV X.K) h)
  have a2 := Ans.bind (rel := DV X.K) a1
  refine ⟨μ, M, ρ, r, e, a2.mono (fun u H2 ⟨μ1, M1, d1, l, r1, q1, a3⟩ => ?_) fun _ _ _ z => z⟩
  unfold gDIx at a3
  split at a3
  · rename_i n k hk _
    split at a3
    · rename_i kvs hn
      split at a3
      · rename_i d2 hd
        obtain ⟨hl, ev⟩ := ref_dv (q.lift l)
        obtain ⟨ps, hp, hkv⟩ := r1.obj n _ hn
        rcases hkv.find k with ⟨h1, h2⟩ | ⟨d3, w, h1, h2, h3⟩
        · rw [h1] at hd; cases hd
        · rw [h1] at hd; cases hd
          have g := DGet.k (k := k) hp
          rw [h2, ← key_dv hk q1] at g
          exact ⟨μ1 n, w, ev, g, ans_pure r1 h3 a3⟩
      · exact a3.elim
    · exact a3.elim
  · exact a3.elim
/-- d.get(k) -/
def eDGet (fo fi : FE) : FE := fun ρ M => (fo ρ M).bind fun x M1 => match x with
  | .ref n => (match M1[n]? with
    | some (.dic _) => (fi ρ M1).bind fun y M2 => (match keyD y, M2[n]? with
      | some k, some (.dic kvs) => .ok ((valD kvs k).getD .non) M2
      | _, _ => .no)
    | _ => .no)
  | _ => .no
theorem me_dget1 (hu : X.A.units + 1 < cLine) (ho : ME X W o fo) (hi : ME X W i fi) (m : M1 X o "get" apos i cpos) : ME X W (.Call (.Attribute o "get" apos) [i] [] cpos) (eDGet fo fi) := by
  refine PE.weak (pe_dget1 hu ho hi m) fun σ H Q h => ?_
  refine tM.mono (fun v H1 ⟨μ, M, ρ, d, r, e, q, a1⟩ => ?_) (tM.seq (rel := DV X.K) h)
  split at a1
  · rename_i n
    split at a1
    · rename_i kv0 hn0
      obtain ⟨hl, ev⟩ := ref_dv q
      obtain ⟨p0, hp0, hkv0⟩ := r.obj n _ hn0
      have a2 := Ans.bind (rel := DV X.K) a1
      refine ⟨μ n, ev, .inl ⟨p0, .inl hp0⟩, μ, M, ρ, r, e, a2.mono (fun u H2 ⟨μ1, M1, d1, l, r1, q1, a3⟩ => ?_) fun _ _ _ z => z⟩
      split at a3
      · rename_i k kvs hk hn
        obtain ⟨hl', ev'⟩ := ref_dv (q.lift l)
        obtain ⟨ps, hp, hkv⟩ := r1.obj n _ hn
        have em : μ1 n = μ n := l.same n hl
        rw [em] at hp
        have g := DGet.k (k := k) hp
        rw [← key_dv hk q1] at g
        refine ⟨_, g, ?_⟩
        rcases hkv.find k with ⟨h1, h2⟩ | ⟨d3, w, h1, h2, h3⟩
        · rw [h2]; rw [h1] at a3; exact ans_pure r1 dv_non a3
        · rw [h2]; rw [h1] at a3; exact ans_pure r1 h3 a3
      · exact a3.elim
    · exact a1.elim
  · exact a1.elim
/-- {} -/
def eDNew : FE := fun _ M => .ok (.ref M.length) (M ++ [.dic []])
theorem ans_newO {K : PySem.W.Frag} {μ : Nat → Addr} {M : Mem} {H : Hp} {W : W0} {m : MO} {u : HO} {Q : VK} (r : Rel K μ M H) (p : Addr) (hp : H p = none) (q : OV K (ext μ M.length p) (M ++ [m]).length (upd H p u) p m) (a : Ans K (DV K) W μ M.length H (.ok (.ref M.length) (M ++ [m])) Q) : Q (.ref p) (upd H p u) := by
  refine a _ _ _ (Lift.alloc hp) (r.alloc hp q) ?_
  unfold DV
  exact ⟨by simp, by unfold ext; rw [if_pos rfl]⟩
theorem me_dNew : ME X W (.Dict [] [] pos) eDNew := by
  refine PE.weak pe_dnewK fun σ H Q ⟨μ, M, ρ, r, e, a⟩ => fun p hp => ?_
  exact ans_newO (m := .dic []) r p hp ⟨[], upd_same, rfl⟩ a
/-- d[k] = v -/
def putDD (x y d : D) (M : Mem) : Option Mem := match x, keyD y with
  | .ref n, some k => (match M[n]? with
    | some (.dic kvs) => if kvs.length < sizeLine then some (M.set n (.dic (putKD kvs k d))) else none
    | _ => none)
  | _, _ => none
def gSbD (fo fi : FE) : FG := fun d ρ M => SR.of (fo ρ M) ρ fun o M1 => SR.of (fi ρ M1) ρ fun i M2 => match putDD o i d M2 with
  | some M3 => .go .nx ρ M3
  | none => .no
theorem set_dict (hu : X.A.units + 1 < cLine) : PSet X (fun o i v H Q => ∃ a H', o = .ref a ∧ DPut H a i v H' ∧ Q H') := by
  intro pins s σ H o i v ov iv u Q I ro ri rv ⟨a, H', e, g, q⟩
  subst e
  cases ro
  exact d_setItem hu I g ri rv fun s' I' => ⟨H', I', q⟩
theorem mg_subD (hu : X.A.units + 1 < cLine) (ho : ME X W o fo) (hi : ME X W i fi)
    (ha : ∀ v, assign (.Subscript o i pos) X.env v = (do
      let ov ← holding [v] (eval o X.env)
      let iv ← holding [v, ov] (eval i X.env)
      standAt pos
      holding [v, ov, iv] (setItem ov iv v)
      release [v, ov, iv] []) := by intro _; rfl) : MG X W (.Subscript o i pos) (gSbD fo fi) := by
  refine ⟨fun pins s σ H v u Q I rv ⟨μ, M, ρ, d, r, e, q, a⟩ => ?_⟩
  refine (pg_sub ho hi (set_dict hu) ha).run pins s σ H v u Q I rv ?_
  refine ⟨μ, M, ρ, r, e, ?_⟩
  unfold gSbD at a
  cases h1 : fo ρ M with
  | no => rw [h1] at a; exact a
  | ex x M1 => rw [h1] at a; exact fun μ' H' c dd l' r' x' => a μ' H' σ c dd l' r' (e.lift l') x'
  | ok o1 M1 =>
    rw [h1] at a
    refine fun μ1 H1 ov l1 r1 q1 => ⟨μ1, M1, ρ, r1, e.lift l1, ?_⟩
    have a := AnsS.rebase l1 a
    cases h2 : fi ρ M1 with
    | no => unfold SR.of at a; dsimp only at a; rw [h2] at a; exact a
    | ex x M2 => unfold SR.of at a; dsimp only at a; rw [h2] at a; exact fun μ' H' c dd l' r' x' => a μ' H' σ c dd l' r' ((e.lift l1).lift l') x'
    | ok i1 M2 =>
      unfold SR.of at a; dsimp only at a; rw [h2] at a
      refine fun μ2 H2 iv l2 r2 q2 => ?_
      have a := AnsS.rebase l2 a
      dsimp only at a
      split at a
      · rename_i M3 h3
        unfold putDD at h3
        split at h3
        · rename_i n k hk _
          split at h3
          · rename_i kvs hn
            split at h3
            · rename_i hl
              cases h3
              obtain ⟨hn', ev⟩ := ref_dv (q1.lift l2)
              obtain ⟨ps, hp, hkv⟩ := r2.obj n _ hn
              have g := DPut.k (k := k) (v := v) hp (by rw [hkv.len]; exact hl)
              rw [← key_dv hk q2] at g
              have kl : Lift μ2 M2.length H2 μ2 M2.length (upd H2 (μ2 n) (.dK (L2.putK ps k v))) := ⟨Nat.le_refl _, fun _ _ => rfl, Kp.dK hp, fun b u e hne => by rw [upd_ne (fun z => hne n hn' z.symm)]; exact e, fun n h h' => absurd h (Nat.not_le.mpr h'), fun b e => dom_upd e⟩
              have p := r2.put hn' (m := .dic (putKD kvs k d)) ⟨_, upd_same, (hkv.putK k (q.lift (l1.trans l2))).lift kl⟩
              exact ⟨μ2 n, _, ev, g, a μ2 _ σ p.2 p.1 (((e.lift l1).lift l2).lift p.2)⟩
            · cases h3
          · cases h3
        · cases h3
      · exact a.elim
end
/-! ### tuple(range(n)), list(range(n)), a new list times a number -/
section
variable {X : Cx} {W : WX} {e a b : Expr} {fa fb : FE} {apos cpos pos p p2 : Pos}
def eTupRg (fa : FE) : FE := fun ρ M => (fa ρ M).bind fun d M1 => match d with
  | .int n => if 0 ≤ n ∧ n ≤ 16777216 then .ok (.tup (rangeD 0 n.toNat)) M1 else .no
  | _ => .no
def eLstRgV (fa : FE) : FE := fun ρ M => (fa ρ M).bind fun d M1 => match d with
  | .int n => if 0 ≤ n ∧ n ≤ 16777216 then .ok (.lst (rangeD 0 n.toNat)) M1 else .no
  | _ => .no
def eLstRgN (fa : FE) : FE := fun ρ M => (fa ρ M).bind fun d M1 => match d with
  | .int n => if 0 ≤ n ∧ n ≤ 16777216 then .ok (.ref M1.length) (M1 ++ [.lst (rangeD 0 n.toNat)]) else .no
  | _ => .no
theorem rg_dv {K : PySem.W.Frag} {μ : Nat → Addr} {N : Nat} {H : Hp} (n : Int) : DVs K μ N H (rangeD 0 n.toNat) (rgV 0 n) := by
  unfold rangeD rgV
  rw [Int.sub_zero]
  have : ∀ l : List Nat, DVs K μ N H (l.map fun (i : Nat) => D.int (0 + (i : Int))) (l.map fun i => V.int (0 + (i : Nat))) := fun l => by
    induction l with
    | nil => exact DVs.nil
    | cons i l ih => exact DVs.cons dv_int ih
  exact this _
theorem me_tupRg (hc : X.calm = true) (hg : Gl X "tuple") (hm : X.mg "tuple" = none) (hg2 : Gl X "range") (hm2 : X.mg "range" = none) (ha : ME X W a fa)
    (na : starEach [a] X.env = (false, eval a X.env) :: starEach [] X.env := by rfl)
    (nb : starEach [(.Call (.Name "range" p2) [a] [] cpos : Expr)] X.env = (false, eval (.Call (.Name "range" p2) [a] [] cpos) X.env) :: starEach [] X.env := by rfl) :
    ME X W (.Call (.Name "tuple" p) [.Call (.Name "range" p2) [a] [] cpos] [] pos) (eTupRg fa) := by
  refine PE.weak (pe_tupRg hc hg hm (prg_1 hg2 hm2 ha na) nb) fun σ H Q h => ?_
  refine tM.mono (fun v H1 ⟨μ, M, ρ, d, r, e, q, a1⟩ => ?_) (tM.seq (rel := DV X.K) h)
  split at a1
  · rename_i n
    split at a1
    · rename_i hn
      exact ⟨n, int_dv q, RgOk.of_le (by decide) hn.2 (by decide) hn.1, fun z hz => ans_tup r (rg_dv n) a1 z hz⟩
    · exact a1.elim
  · exact a1.elim
theorem me_lstRgN (hc : X.calm = true) (hg : Gl X "list") (hm : X.mg "list" = none) (hg2 : Gl X "range") (hm2 : X.mg "range" = none) (ha : ME X W a fa)
    (na : starEach [a] X.env = (false, eval a X.env) :: starEach [] X.env := by rfl)
    (nb : starEach [(.Call (.Name "range" p2) [a] [] cpos : Expr)] X.env = (false, eval (.Call (.Name "range" p2) [a] [] cpos) X.env) :: starEach [] X.env := by rfl) :
    ME X W (.Call (.Name "list" p) [.Call (.Name "range" p2) [a] [] cpos] [] pos) (eLstRgN fa) := by
  refine PE.weak (pe_listRg hc hg hm (prg_1 hg2 hm2 ha na) nb) fun σ H Q h => ?_
  refine tM.mono (fun v H1 ⟨μ, M, ρ, d, r, e, q, a1⟩ => ?_) (tM.seq (rel := DV X.K) h)
  split at a1
  · rename_i n
    split at a1
    · rename_i hn
      exact ⟨n, int_dv q, RgOk.of_le (by decide) hn.2 (by decide) hn.1, fun z hz => ans_new r (rg_dv n) a1 z hz⟩
    · exact a1.elim
  · exact a1.elim
def gRepL : F2 := fun x y M => match x, y with
  | .ref n, .int k => (match M[n]? with
    | some (.lst xs) => if (-(2 ^ 63) ≤ k ∧ k < 2 ^ 63) ∧ xs.length * k.toNat ≤ sizeLine then .ok (.lst (List.replicate k.toNat xs).flatten) M else .no
    | _ => .no)
  | _, _ => .no
theorem om_repL : OpM X (binaryOp .Mult) gRepL := by
  intro W pins s σ H x y v u Q I rx ry ⟨μ, M, a, b, r, qa, qb, an⟩
  unfold gRepL at an
  split at an
  · rename_i n k
    split at an
    · rename_i xs hn
      split at an
      · rename_i hk
        obtain ⟨hl, ev⟩ := ref_dv qa
        subst ev
        rw [int_dv qb] at ry
        obtain ⟨ys, hy, dy⟩ := r.obj n _ hn
        exact OpR.lock op_rep pins s σ H _ _ v u Q I rx ry ⟨μ n, k, ys, rfl, rfl, hy, hk.1.1, hk.1.2, by rw [dy.length]; exact hk.2, fun p hp => ⟨p, _, rfl, upd_same, fun o => ans_lst r (dy.rep _) an p hp o⟩⟩
      · exact an.elim
    · exact an.elim
  · exact an.elim
end
theorem hu1 {A : Around} {k : Nat} (hr : Room k A) : A.units + 1 < cLine := by
  have := hu64 hr
  omega
end Br
end
section
namespace Br
open PySem PySem.Spec PyProof.Rows L2
/-! ### dict displays with written text keys -/
theorem zip_kV : ∀ (ks : List Str) (vs : List V), (ks.map V.str).zip vs = ((ks.map fun z => (Sum.inr z : Key)).zip vs).map fun kv => (kV kv.1, kv.2)
  | [], vs => rfl
  | k :: ks, [] => rfl
  | k :: ks, v :: vs => by
    exact congrArg (fun l => (V.str k, v) :: l) (zip_kV ks vs)
theorem merge_nd : ∀ (more acc : List (Key × V)), (more.map (·.1)).Nodup → (∀ p ∈ more, valV acc p.1 = none) → mergeK acc more = acc ++ more
  | [], acc, _, _ => by simp [mergeK]
  | p :: more, acc, hn, hd => by
    have h1 : mergeK acc (p :: more) = mergeK (L2.putK acc p.1 p.2) more := rfl
    rw [h1, putK_new p.2 (hd p (by simp))]
    rw [List.map_cons, List.nodup_cons] at hn
    rw [merge_nd more (acc ++ [(p.1, p.2)]) hn.2 fun q hq => ?_]
    · simp
    · rw [valV_snoc p.1 q.1 p.2 acc (hd p (by simp))]
      have : ¬ q.1 = p.1 := fun z => hn.1 (z ▸ List.mem_map.mpr ⟨q, hq, rfl⟩)
      rw [if_neg this]
      exact hd q (by simp [hq])
structure MPs (X : Cx) (W : WX) (pos : Pos) (keys : List (Option Expr)) (values : List Expr) (ks : List Str) (g : FA) : Prop where
  ex : ∃ trs, PPs X pos keys values trs ∧ ∀ (σ : L2.St) (H : Hp) (Q : List (V × V) → Hp → Prop), tM X.K (DVs X.K) W g σ H (fun vs H' => Q ((ks.map V.str).zip vs) H') → tPairs trs σ H Q
section
variable {X : Cx} {W : WX} {pos : Pos} {keys : List (Option Expr)} {values : List Expr} {ks : List Str} {g : FA}
theorem mps_nil : MPs X W pos [] [] [] aN := ⟨[], pps_nil, fun σ H Q ⟨μ, M, ρ, r, e, q⟩ => q μ H [] (Lift.refl ..) r DVs.nil⟩
theorem mps_cons {z : Str} {j : Nat} {p : Pos} {v : Expr} {fv : FE} (hv : ME X W v fv) (hr : MPs X W pos keys values ks g) : MPs X W pos (some (.Constant (.str z) j p) :: keys) (v :: values) (z :: ks) (aC fv g) := by
  obtain ⟨trs, hp, hq⟩ := hr.ex
  refine ⟨_, pps_cons (me_str (X := X) (W := W)) hv hp, fun σ H Q h => ?_⟩
  obtain ⟨μ, M, ρ, r, e, a⟩ := h
  refine ⟨μ, M, ρ, r, e, fun μ' H' x l r' q => ?_⟩
  have ex : x = V.str z := str_dv q
  subst ex
  have h' : tM X.K (DVs X.K) W (aC fv g) σ H' (fun vs H' => Q (((z :: ks).map V.str).zip vs) H') := ⟨μ', M, ρ, r', e.lift l, Ans.rebase l a⟩
  refine tM.mono (fun v H1 ⟨μ, M, ρ, d, r, e, q, a1⟩ => ?_) (tM.seq (rel := DV X.K) h')
  refine hq σ H1 _ ?_
  have a2 := Ans.bind (rel := DVs X.K) a1
  refine ⟨μ, M, ρ, r, e, a2.mono (fun us H2 ⟨μ1, M1, ds, l, r1, q1, a3⟩ => ?_) fun _ _ _ z => z⟩
  exact a3 μ1 H2 _ (Lift.refl ..) r1 (DVs.cons (q.lift l) q1)
/-- {'a': .., 'b': ..}: a new dict -/
def eDisp (ks : List Str) (g : FA) : FE := fun ρ M => (g ρ M).bind fun ds M1 => if ds.length = ks.length ∧ ks.length ≤ 15 then .ok (.ref M1.length) (M1 ++ [.dic ((ks.map fun z => (Sum.inr z : Key)).zip ds)]) else .no
theorem KVs.zip {K : PySem.W.Frag} {μ : Nat → Addr} {N : Nat} {H : Hp} : ∀ {ks : List Key} {ds : List D} {vs : List V}, DVs K μ N H ds vs → ds.length = ks.length → KVs K μ N H (ks.zip ds) (ks.zip vs)
  | [], ds, vs, q, h => by
    cases ds with
    | nil => rw [q.inv_nil]; rfl
    | cons d ds => cases h
  | k :: ks, [], vs, q, h => by cases h
  | k :: ks, d :: ds, vs, q, h => by
    obtain ⟨v, r, rfl, q1, q2⟩ := q.inv_cons
    exact ⟨v, _, rfl, q1, KVs.zip q2 (by simpa using h)⟩
theorem Rel.adoptD {K : PySem.W.Frag} {μ : Nat → Addr} {M : Mem} {H : Hp} {p : Addr} {kvs : List (Key × D)} {ps : List (Key × V)} (r : Rel K μ M H) (hp : ∀ n, n < M.length → μ n ≠ p) (h : H p = Option.some (.dK ps)) (q : KVs K μ M.length H kvs ps) : Rel K (ext μ M.length p) (M ++ [.dic kvs]) H := by
  have le : M.length ≤ (M ++ [MO.dic kvs]).length := by simp
  have sm : ∀ n, n < M.length → ext μ M.length p n = μ n := fun n hn => if_neg (Nat.ne_of_lt hn)
  have e2 : ext μ M.length p M.length = p := if_pos rfl
  refine ⟨fun n o' e => ?_, fun i j hi hj e => ?_⟩
  · by_cases hn : n < M.length
    · rw [List.getElem?_append_left hn] at e
      rw [sm n hn]
      exact OV.mu le sm (r.obj n o' e)
    · have hl := (List.getElem?_eq_some_iff.mp e).1
      rw [List.length_append, List.length_singleton] at hl
      have hn' : n = M.length := by omega
      subst hn'
      rw [List.getElem?_append_right (Nat.le_refl _), Nat.sub_self] at e
      have e1 := Option.some.inj e
      subst e1
      rw [e2]; exact ⟨ps, h, q.mu le sm⟩
  · rw [List.length_append, List.length_singleton] at hi hj
    unfold ext at e
    by_cases h1 : i = M.length
    · by_cases h2 : j = M.length
      · omega
      · rw [if_pos h1, if_neg h2] at e
        exact absurd e.symm (hp j (by omega))
    · by_cases h2 : j = M.length
      · rw [if_neg h1, if_pos h2] at e
        exact absurd e (hp i (by omega))
      · rw [if_neg h1, if_neg h2] at e
        exact r.inj i j (by omega) (by omega) e
theorem me_disp (hP : MPs X W pos keys values ks g) (hn : (ks.map fun z => (Sum.inr z : Key)).Nodup) (hall : keys.all (·.isSome) = true := by rfl) (hl : keys.length = values.length := by rfl) (h0 : keys ≠ [] := by simp) (h15 : keys.length ≤ 15 := by decide) : ME X W (.Dict keys values pos) (eDisp ks g) := by
  obtain ⟨trs, hp, hq⟩ := hP.ex
  refine PE.weak (pe_disp hp hall hl h0 h15) fun σ H Q ⟨μ, M, ρ, r, e, a⟩ => ?_
  intro p hpn
  refine hq σ _ _ ?_
  refine ⟨μ, M, ρ, r.fresh hpn, e.lift (Lift.fresh hpn), ?_⟩
  unfold eDisp at a
  cases hg : g ρ M with
  | no => rw [hg] at a; exact a.elim
  | ex x M1 =>
    rw [hg] at a
    exact fun μ' H' c dd l' r' x' => a μ' H' c dd ((Lift.fresh hpn).trans l') r' x'
  | ok ds M1 =>
    rw [hg] at a
    intro μ' H' vs l r' q
    have a : Ans X.K (DV X.K) (fun c d H' => W c d σ H') μ M.length H (if ds.length = ks.length ∧ ks.length ≤ 15 then .ok (.ref M1.length) (M1 ++ [.dic ((ks.map fun z => (Sum.inr z : Key)).zip ds)]) else .no) Q := a
    split at a
    · rename_i hk
      have ho0 : ∀ n, n < M.length → μ n ≠ p := fun n hn => r.ne hn hpn
      have hd : H' p = some (.dK []) := l.fr p _ upd_same ho0
      have ho := l.out upd_same ho0
      have lt := (Lift.fresh hpn).trans l
      refine ⟨hd, (ks.map fun z => (Sum.inr z : Key)).zip vs, zip_kV ks vs, by rw [List.length_zip]; simp; omega, ?_⟩
      have hm : mergeK [] ((ks.map fun z => (Sum.inr z : Key)).zip vs) = (ks.map fun z => (Sum.inr z : Key)).zip vs := by
        rw [merge_nd _ [] ?_ fun _ _ => rfl]
        · rfl
        · rw [List.map_fst_zip]
          · exact hn
          · rw [q.length, hk.1]; simp
      rw [hm]
      have kp : Kp H' (upd H' p (.dK ((ks.map fun z => (Sum.inr z : Key)).zip vs))) := Kp.dK hd
      have r2 := r'.poke kp ho
      have l2 := lt.poke hpn kp
      have q2 : KVs X.K μ' M1.length (upd H' p (.dK ((ks.map fun z => (Sum.inr z : Key)).zip vs))) ((ks.map fun z => (Sum.inr z : Key)).zip ds) ((ks.map fun z => (Sum.inr z : Key)).zip vs) := KVs.kp kp (KVs.zip q (by simpa using hk.1))
      refine a (ext μ' M1.length p) _ _ (l2.adopt hpn) (r2.adoptD ho upd_same q2) ?_
      unfold DV
      exact ⟨by simp, congrArg V.ref (if_pos rfl : ext μ' M1.length p M1.length = p).symm⟩
    · exact a.elim
end
end Br
end
section
namespace Br
open PySem PySem.Spec PyProof.Rows L2
/-! ### d.update(e) -/
theorem mt_update {X : Cx} : MtR X "dict.update" (fun x vs H Q => ∃ a b kvs more, x = V.ref a ∧ vs = [V.ref b] ∧ a ≠ b ∧ H a = some (.dK kvs) ∧ H b = some (.dK more) ∧ kvs.length + more.length ≤ sizeLine ∧ Q .non (upd H a (.dK (mergeK kvs more)))) := by
  intro pins s σ H x vs v us Q I rx rv ⟨a, b, kvs, more, e1, e2, hne, ha, hb, hz, q⟩
  subst e1; subst e2
  cases rx
  obtain ⟨u, rfl, ru⟩ := rv.one
  cases ru
  obtain ⟨z1, d1, ws1, rel1, dd1⟩ := dk_of I.hok ha
  obtain ⟨z2, d2, ws2, rel2, dd2⟩ := dk_of I.hok hb
  refine call_meetsIn PySem.F.slot_dict_update dd1.typeIs PySem.F.entry_dict_update (PySem.F.args_dict_update_2 _ _) (meets_dict_update (mixKind X.prog X.w) a b hne d2) ⟨ws1, ws2, dd1, dd2, by rw [← rel1.length, ← rel2.length]; exact hz, fun h' m1 m2 hs => ?_⟩
  have hl : (mergeK kvs more).length ≤ sizeLine := Nat.le_trans (length_mergeK more kvs) hz
  have he : ∃ q, h'.get? a = some q := let ⟨q, _, _, hq, _⟩ := m1; ⟨q, hq⟩
  exact ⟨.non, _, d_write I (by rw [ha]; exact True.intro) hs he (dk_new hl d1 (rel2.merge rel1) m1), rfl, q⟩
def mergeD (kvs : List (Key × D)) : List (Key × D) → List (Key × D)
  | [] => kvs
  | p :: more => mergeD (putKD kvs p.1 p.2) more
theorem KVs.merge {K : PySem.W.Frag} {μ : Nat → Addr} {N : Nat} {H : Hp} : ∀ {more : List (Key × D)} {mv : List (Key × V)} {kvs : List (Key × D)} {kv : List (Key × V)}, KVs K μ N H more mv → KVs K μ N H kvs kv → KVs K μ N H (mergeD kvs more) (mergeK kv mv)
  | [], mv, kvs, kv, h1, h2 => by cases h1; exact h2
  | p :: more, mv, kvs, kv, h1, h2 => by
    obtain ⟨v, r, e, q, h3⟩ := h1
    subst e
    show KVs K μ N H (mergeD (putKD kvs p.1 p.2) more) (mergeK (L2.putK kv p.1 v) r)
    exact KVs.merge (more := more) (mv := r) h3 (h2.putK p.1 q)
/-- d.update(e), d and e dicts of the memory -/
def eDUpd (fo fi : FE) : FE := fun ρ M => (fo ρ M).bind fun x M1 => match x with
  | .ref n => (match M1[n]? with
    | some (.dic _) => (fi ρ M1).bind fun y M2 => (match y with
      | .ref j => (match M2[n]?, M2[j]? with
        | some (.dic kvs), some (.dic more) => if n ≠ j ∧ kvs.length + more.length ≤ sizeLine then .ok .non (M2.set n (.dic (mergeD kvs more))) else .no
        | _, _ => .no)
      | _ => .no)
    | _ => .no)
  | _ => .no
theorem me_update {X : Cx} {W : WX} {o i : Expr} {fo fi : FE} {apos cpos : Pos} (ho : ME X W o fo) (hi : ME X W i fi)
    (hbase : attributeBase o "update" X.env (eval o X.env) = eval o X.env := by rfl)
    (hfew : ((backTo cpos (starEach [i] X.env)).all (fun x => !x.1) && (backToKw cpos (keywordEach [] X.env)).all (fun x => x.1.isSome) && decide (([i] : List Expr).length + ([] : List Keyword).length + (if ([] : List Keyword).isEmpty then 0 else 1) < 30)) = true := by rfl)
    (hline : (apos.endLine == cpos.line) = true := by rfl) (hs : starEach [i] X.env = (false, eval i X.env) :: starEach [] X.env := by rfl) (hplain : (backTo cpos (starEach [] X.env)).any (·.1) = false := by rfl) :
    ME X W (.Call (.Attribute o "update" apos) [i] [] cpos) (eDUpd fo fi) := by
  have ha : MA X W [i] (aC fi aN) := ma_cons hi ma_nil hs
  refine PE.weak (pe_bm PySem.F.plainAttrs_dict PySem.F.slot_dict_update PySem.F.type_dict_update mt_update ho ha hbase hfew hline hs hplain) fun σ H Q h => ?_
  refine tM.mono (fun v H1 ⟨μ, M, ρ, d, r, e, q, a1⟩ => ?_) (tM.seq (rel := DV X.K) h)
  split at a1
  · rename_i n
    split at a1
    · rename_i kv0 hn0
      obtain ⟨hl, ev⟩ := ref_dv q
      obtain ⟨p0, hp0, hkv0⟩ := r.obj n _ hn0
      subst ev
      refine ⟨.inr (.inr (.inl ⟨rfl, .inl ⟨p0, hp0⟩⟩)), μ, M, ρ, r, e, ?_⟩
      cases hi2 : fi ρ M with
      | no => rw [hi2] at a1; exact a1.elim
      | ex x M2 =>
        rw [hi2] at a1
        have e1 : aC fi aN ρ M = .ex x M2 := by unfold aC; rw [hi2]; rfl
        rw [e1]
        exact a1
      | ok d1 M2 =>
        rw [hi2] at a1
        have e1 : aC fi aN ρ M = .ok [d1] M2 := by unfold aC; rw [hi2]; rfl
        rw [e1]
        intro μ' H' us l r' q'
        obtain ⟨u, rr, eu, q2, q3⟩ := q'.inv_cons
        rw [q3.inv_nil] at eu
        subst eu
        have a3 := Ans.rebase l a1
        dsimp only [R.bind] at a3
        split at a3
        · rename_i j
          split at a3
          · rename_i kvs more hk hm
            split at a3
            · rename_i hc
              obtain ⟨hj, eu⟩ := ref_dv q2
              subst eu
              obtain ⟨pk, hpk, hkk⟩ := r'.obj n _ hk
              obtain ⟨pm, hpm, hkm⟩ := r'.obj j _ hm
              have hn2 : n < M2.length := (List.getElem?_eq_some_iff.mp hk).1
              have em : μ' n = μ n := l.same n hl
              have hpk' := hpk
              rw [em] at hpk'
              have hne : μ n ≠ μ' j := fun z => hc.1 (r'.inj n j hn2 hj (em.trans z))
              have kl : Lift μ' M2.length H' μ' M2.length (upd H' (μ' n) (.dK (mergeK pk pm))) := ⟨Nat.le_refl _, fun _ _ => rfl, Kp.dK hpk, fun b u e hne => by rw [upd_ne (fun z => hne n hn2 z.symm)]; exact e, fun n h h' => absurd h (Nat.not_le.mpr h'), fun b e => dom_upd e⟩
              have p := r'.put hn2 (m := .dic (mergeD kvs more)) ⟨_, upd_same, (hkm.merge hkk).lift kl⟩
              refine ⟨μ n, μ' j, pk, pm, rfl, rfl, hne, hpk', hpm, by rw [hkk.len, hkm.len]; exact hc.2, ?_⟩
              rw [← em]
              exact a3 μ' _ _ p.2 p.1 dv_non
            · exact a3.elim
          · exact a3.elim
        · exact a3.elim
    · exact a1.elim
  · exact a1.elim
end Br
end
section
namespace Br
open PySem PySem.Spec PyProof.Rows L2
/-! ### a + b of instances with a plain __add__ -/
section
variable {X : Cx}
def refR (r : R D) : R D := match r with
  | .ok (.ref k) M => .ok (.ref k) M
  | _ => .no
/-- classes whose order begins with themselves -/
def Selfs (X : Cx) (tb : PTb) : Prop := ∀ c G, tb.lookup c = some G → PySem.W.selfFirst X.K (He.ga X.K c) = true
theorem self_nil : Selfs X [] := fun c G h => by cases h
theorem self_cons {c : Str} {G : FL} {tb : PTb} (h1 : PySem.W.selfFirst X.K (He.ga X.K c) = true) (t : Selfs X tb) : Selfs X ((c, G) :: tb) := fun b G' h => by
  rw [List.lookup_cons] at h
  split at h
  · rename_i hb
    cases h
    rw [eq_of_beq hb]; exact h1
  · exact t b G' h
def gAddO (tb : PTb) : F2 := fun x y M => match insOf M x, insOf M y with
  | some (n, c, _), some (n', c', _) => if c = c' then (match tb.lookup c with
    | some G => refR (G [.ref n, .ref n'] M)
    | none => .no) else .no
  | _, _ => gAdd x y M
theorem ans_refR {K : PySem.W.Frag} {W1 W2 : W0} {μ : Nat → Addr} {N : Nat} {H : Hp} {r : R D} {Q : VK} (a : Ans K (DV K) W1 μ N H (refR r) Q) : Ans K (DV K) W2 μ N H (noEx r) (fun v H' => (∃ i : Addr, v = .ref i) ∧ Q v H') := by
  cases r with
  | ok d M =>
    cases d with
    | ref i =>
      intro μ' H' v l r' q
      exact ⟨⟨μ' i, by unfold DV at q; exact q.2⟩, a μ' H' v l r' q⟩
    | _ => exact a.elim
  | ex e M => exact a.elim
  | no => exact a
theorem om_addO {tb : PTb} (ht : STs_ X "__add__" 2 tb) (hs : Selfs X tb) (hgd : X.A.guards = some []) : OpM X (binaryOp .Add) (gAddO tb) := by
  intro W pins s σ H x y v u Q I rx ry ⟨μ, M, a, b, r, qa, qb, an⟩
  unfold gAddO at an
  split at an
  · rename_i n c fs n' c' fs' hi hi'
    split at an
    · rename_i hcc
      subst hcc
      obtain ⟨ea, eva, dx, gs, h1, h2⟩ := insOf_ok r qa hi
      obtain ⟨eb, evb, dx', gs', h1', h2'⟩ := insOf_ok r qb hi'
      subst ea eb eva evb
      obtain rfl : v = Value.ref (μ n) := rx
      obtain rfl : u = Value.ref (μ n') := ry
      split at an
      · rename_i G hG
        obtain ⟨ga, fd, ps, k, c1, c2, F, hb, hr⟩ := (ht c G hG).ex
        have hself := hs c G hG
        obtain ⟨mA, O, _, _, _, _⟩ := ins_get I.hok h1
        obtain ⟨od, J, _⟩ := O.look
        obtain ⟨mB, O', _, _, _, _⟩ := ins_get I.hok h1'
        obtain ⟨od', J', _⟩ := O'.look
        obtain ⟨m, hF⟩ := I.fr
        refine PySem.W.binop_K (op := .Add) hF I.ok.mod.kin J J'.type hself c1 (beq_iff_eq.mpr c2) ?_
        have z := run_at (A' := X.A) (us := [Value.ref (μ n), Value.ref (μ n')]) (ws := []) (vs := [V.ref (μ n), V.ref (μ n')]) (zs := []) (ks := []) (ds := [.ref n, .ref n']) (es := []) (E' := X.xe) F hb (hr.mono (by omega)) hgd I.env0 I (.cons rfl (.cons rfl .nil)) .nil r (DVs.cons qa (DVs.cons qb DVs.nil)) DVs.nil rfl rfl (ans_refR an)
        refine wpAny_mono z (fun v s' hv => ?_) (fun _ _ e => e)
        obtain ⟨V, H', I', rv, ⟨i, ei⟩, q⟩ := hv
        subst ei
        obtain rfl : v = Value.ref i := rv
        exact ⟨V.ref i, H', I', rfl, q⟩
      · exact an.elim
    · exact an.elim
  · exact om_add W pins s σ H x y v u Q I rx ry ⟨μ, M, a, b, r, qa, qb, an⟩
end
end Br
end
section
namespace Br
open PySem PySem.Spec PyProof.Rows L2
/-! ### a == b, a != b of instances with a plain __eq__ -/
section
variable {M : Model} {prog : Program} {w : World} {A : Around} {E : Value → Shared → Prop} {s : Shared} {K : PySem.W.Frag} {x C L f : Addr} {h₀ : Heap} {m : Str → Option Value} {ox : Obj} {od : Option Obj} {b tb : Value}
theorem ifBound_objNe {args : List Value} {Q : Option Value → Shared → Prop} (X : K.In s.heap) (I : PySem.W.InstAt s.heap x ox C od) (hs : PySem.W.findIn K (.ref C) "__ne__" = some (some (.builtin "object.__ne__")))
    (h : wpAny M A (call (.builtin "object.__ne__") (.ref x :: args)) (fun v => Q (some v)) E s) : wpAny M A (callSpecialIfBound? (.ref x) "__ne__" args) Q E s := by
  simp only [callSpecialIfBound?, bindSpecialIfBound?]
  refine wpAny_holding (wpAny_bind (wpAny_bind (wpAny_bind (I.type.here ((PySem.W.looks_findIn X hs).here ?_)))))
  refine wpAny_bind (wpAny_askSetting (wpAny_ite ?_))
  have fin : wpAny M A (call (.builtin "object.__ne__") ([.ref x] ++ args) >>= fun v => pure (some v)) Q E s := wpAny_bind (wpAny_mono h (fun v s' h' => wpAny_pure h') fun _ _ h' => h')
  split
  · exact wpAny_bind (wpAny_of_eq (F.cmp_object.ne.bind _) (wpAny_pure (by exact fin)))
  · exact wpAny_tryCatch (wpAny_bind (wpAny_of_eq (F.cmp_object.ne.bind _) (wpAny_pure (by exact fin))))
theorem entry_ne {Q : Fin → Shared → Prop} (hu : A.units < cLine) (X : K.In s.heap) (I : PySem.W.InstAt s.heap x ox C od) (hs : PySem.W.findIn K (.ref C) "__eq__" = some (some (.ref f))) (hf : PySem.W.isFn K (.ref f) = true)
    (h : wpAny M A (call (.ref f) [.ref x, b]) (fun v s' => ∃ r, v = .bool r ∧ Q (.done (.ret (.bool (!r)))) s') E s) : wpAny M A (Builtin.«object.__ne__» ⟨[.ref x, b], []⟩) Q E s := by
  unfold Builtin.«object.__ne__»
  refine wpAny_bind (wpAny_pure ?_)
  refine wpAny_bind (wpAny_cRoomFor hu ?_)
  refine wpAny_bind (PySem.W.ifBound_K X I hs hf (wpAny_mono h (fun v s' hv => ?_) fun _ _ e => e))
  obtain ⟨r, rfl, hq⟩ := hv
  exact wpAny_bind (wpAny_truthy_bool (wpAny_pure hq))
theorem ne_K {Q : Value → Shared → Prop} (hu : A.units < cLine) (hu1 : A.in1.units < cLine) (X : K.In s.heap) (I : PySem.W.InstAt s.heap x ox C od) (hb : PySem.W.Looks (model prog w) s.heap (typeOf b) tb) (hn : PySem.W.notFirst K C tb = true)
    (hm : PySem.W.mroIn K C (.type "object") = some true) (hne : PySem.W.findIn K (.ref C) "__ne__" = some (some (.builtin "object.__ne__")))
    (hs : PySem.W.findIn K (.ref C) "__eq__" = some (some (.ref f))) (hf : PySem.W.isFn K (.ref f) = true)
    (h : wpAny (model prog w) A.in1 (call (.ref f) [.ref x, b]) (fun v s' => ∃ r, v = .bool r ∧ Q (.bool (!r)) s') E s) : wpAny (model prog w) A (richCompare .NotEq (.ref x) b) Q E s := by
  have one : wpAny (model prog w) A (tryCompare (.ref x) "__ne__" b) (fun r s' => ∃ v, r = some v ∧ Q v s') E s := by
    unfold tryCompare
    refine wpAny_bind (ifBound_objNe X I hne ?_)
    refine wpAny_call (codeAny_call_builtin F.cmp_object.ne.plain F.cmpEntry_ne (PySem.W.check_slot F.cmpKind_ne F.cmpSplit_ne (I.type.andThen (PySem.W.looks_mroIn X hm)) (F.cmpArgs_ne _ _) (entry_ne hu1 X I hs hf (wpAny_mono h (fun v s' hv => ?_) fun _ _ e => e))))
    obtain ⟨r, rfl, hq⟩ := hv
    exact ⟨_, rfl, wpAny_pure ⟨_, rfl, hq⟩⟩
  unfold richCompare
  simp only [oneThing_ref]
  refine wpAny_holding (wpAny_bind (wpAny_cRoomFor hu ?_))
  refine wpAny_bind (I.type.here (wpAny_bind (hb.here ?_)))
  split
  · rename_i q
    have e : PySem.W.subIn K tb (.ref C) = some false := by
      rcases Bool.or_eq_true_iff.mp hn with e | e
      · rw [beq_iff_eq.mp e] at q; simp at q
      · exact beq_iff_eq.mp e
    refine wpAny_bind ((PySem.W.looks_subIn X e).here ?_)
    simp only [Bool.false_eq_true, if_false]
    refine wpAny_bind (wpAny_mono one (fun r s' z => ?_) fun _ _ e => e)
    obtain ⟨v, rfl, hq⟩ := z
    exact wpAny_pure hq
  · refine wpAny_bind (wpAny_pure ?_)
    simp only [Bool.false_eq_true, if_false]
    refine wpAny_bind (wpAny_mono one (fun r s' z => ?_) fun _ _ e => e)
    obtain ⟨v, rfl, hq⟩ := z
    exact wpAny_pure hq
end
section
variable {X : Cx}
def blR (r : R D) (k : Bool) : R D := match r with
  | .ok (.bl b) M => .ok (.bl (if k then b else !b)) M
  | _ => .no
theorem ans_blR {K : PySem.W.Frag} {W1 W2 : W0} {μ : Nat → Addr} {N : Nat} {H : Hp} {r : R D} {k : Bool} {Q : VK} (a : Ans K (DV K) W1 μ N H (blR r k) Q) : Ans K (DV K) W2 μ N H (noEx r) (fun v H' => ∃ b : Bool, v = .bl b ∧ Q (.bl (if k then b else !b)) H') := by
  cases r with
  | ok d M =>
    cases d with
    | bl i =>
      intro μ' H' v l r' q
      refine ⟨i, by unfold DV at q; exact q, a μ' H' _ l r' ?_⟩
      unfold DV; rfl
    | _ => exact a.elim
  | ex e M => exact a.elim
  | no => exact a
/-- the own == of the classes of tb; k: whether the answer is taken as it is -/
def gEqO (tb : PTb) (k : Bool) (g : F2) : F2 := fun x y M => match insOf M x, insOf M y with
  | some (n, c, _), some (n', c', _) => if c = c' then (match tb.lookup c with
    | some G => blR (G [.ref n, .ref n'] M) k
    | none => .no) else .no
  | _, _ => g x y M
theorem om_eqO {tb : PTb} (ht : STs_ X "__eq__" 2 tb) (hgd : X.A.guards = some []) (hu : X.A.units + 64 < cLine) : OpM X (compareOp .Eq) (gEqO tb true gEq) := by
  intro W pins s σ H x y v u Q I rx ry ⟨μ, M, a, b, r, qa, qb, an⟩
  unfold gEqO at an
  split at an
  · rename_i n c fs n' c' fs' hi hi'
    split at an
    · rename_i hcc
      subst hcc
      obtain ⟨ea, eva, dx, gs, h1, h2⟩ := insOf_ok r qa hi
      obtain ⟨eb, evb, dx', gs', h1', h2'⟩ := insOf_ok r qb hi'
      subst ea eb eva evb
      obtain rfl : v = Value.ref (μ n) := rx
      obtain rfl : u = Value.ref (μ n') := ry
      split at an
      · rename_i G hG
        obtain ⟨ga, fd, ps, k, c1, c2, F, hb, hr⟩ := (ht c G hG).ex
        obtain ⟨mA, O, _, _, _, _⟩ := ins_get I.hok h1
        obtain ⟨od, J, _⟩ := O.look
        obtain ⟨mB, O', _, _, _, _⟩ := ins_get I.hok h1'
        obtain ⟨od', J', _⟩ := O'.look
        obtain ⟨m, hF⟩ := I.fr
        refine PySem.W.cmp_ofEq (PySem.W.cmp_K (op := .Eq) (tb := .ref (He.ga X.K c)) (by omega) hF I.ok.mod.kin J J'.type (by simp [PySem.W.notFirst]) c1 (beq_iff_eq.mpr c2) ?_)
        have z := run_at (A' := X.A) (us := [Value.ref (μ n), Value.ref (μ n')]) (ws := []) (vs := [V.ref (μ n), V.ref (μ n')]) (zs := []) (ks := []) (ds := [.ref n, .ref n']) (es := []) (E' := X.xe) F hb (hr.mono (by omega)) hgd I.env0 I (.cons rfl (.cons rfl .nil)) .nil r (DVs.cons qa (DVs.cons qb DVs.nil)) DVs.nil rfl rfl (ans_blR an)
        refine wpAny_mono z (fun v s' hv => ?_) (fun _ _ e => e)
        obtain ⟨V, H', I', rv, ⟨i, ei, q⟩⟩ := hv
        subst ei
        obtain rfl : v = Value.bool i := rv
        exact ⟨V.bl i, H', I', rfl, q⟩
      · exact an.elim
    · exact an.elim
  · exact om_eq hu W pins s σ H x y v u Q I rx ry ⟨μ, M, a, b, r, qa, qb, an⟩
/-- the class takes object's != -/
def NeOk (X : Cx) (tb : PTb) : Prop := ∀ c G, tb.lookup c = some G → PySem.W.mroIn X.K (He.ga X.K c) (.type "object") = some true ∧ PySem.W.findIn X.K (.ref (He.ga X.K c)) "__ne__" = some (some (.builtin "object.__ne__"))
theorem ne_nil : NeOk X [] := fun c G h => by cases h
theorem ne_cons {c : Str} {G : FL} {tb : PTb} (h1 : PySem.W.mroIn X.K (He.ga X.K c) (.type "object") = some true ∧ PySem.W.findIn X.K (.ref (He.ga X.K c)) "__ne__" = some (some (.builtin "object.__ne__"))) (t : NeOk X tb) : NeOk X ((c, G) :: tb) := fun b G' h => by
  rw [List.lookup_cons] at h
  split at h
  · rename_i hb
    cases h
    rw [eq_of_beq hb]; exact h1
  · exact t b G' h
theorem om_neO {tb : PTb} (ht : STs_ X "__eq__" 2 tb) (hn : NeOk X tb) (hgd : X.A.guards = some []) (hu : X.A.units + 64 < cLine) : OpM X (compareOp .NotEq) (gEqO tb false gNe) := by
  intro W pins s σ H x y v u Q I rx ry ⟨μ, M, a, b, r, qa, qb, an⟩
  unfold gEqO at an
  split at an
  · rename_i n c fs n' c' fs' hi hi'
    split at an
    · rename_i hcc
      subst hcc
      obtain ⟨ea, eva, dx, gs, h1, h2⟩ := insOf_ok r qa hi
      obtain ⟨eb, evb, dx', gs', h1', h2'⟩ := insOf_ok r qb hi'
      subst ea eb eva evb
      obtain rfl : v = Value.ref (μ n) := rx
      obtain rfl : u = Value.ref (μ n') := ry
      split at an
      · rename_i G hG
        obtain ⟨ga, fd, ps, k, c1, c2, F, hb, hr⟩ := (ht c G hG).ex
        obtain ⟨hm, hne⟩ := hn c G hG
        obtain ⟨mA, O, _, _, _, _⟩ := ins_get I.hok h1
        obtain ⟨od, J, _⟩ := O.look
        obtain ⟨mB, O', _, _, _, _⟩ := ins_get I.hok h1'
        obtain ⟨od', J', _⟩ := O'.look
        refine PySem.W.cmp_ofNotEq (ne_K (tb := .ref (He.ga X.K c)) (by omega) (by have := hr.in1.units0; exact this) I.kIn J J'.type (by simp [PySem.W.notFirst]) hm hne c1 (beq_iff_eq.mpr c2) ?_)
        have z := run_at (A' := X.A.in1) (us := [Value.ref (μ n), Value.ref (μ n')]) (ws := []) (vs := [V.ref (μ n), V.ref (μ n')]) (zs := []) (ks := []) (ds := [.ref n, .ref n']) (es := []) (E' := X.xe) F hb hr.in1 hgd I.env0.in1 I (.cons rfl (.cons rfl .nil)) .nil r (DVs.cons qa (DVs.cons qb DVs.nil)) DVs.nil rfl rfl (ans_blR an)
        refine wpAny_mono z (fun v s' hv => ?_) (fun _ _ e => e)
        obtain ⟨V, H', I', rv, ⟨i, ei, q⟩⟩ := hv
        subst ei
        obtain rfl : v = Value.bool i := rv
        exact ⟨i, rfl, V.bl (!i), H', I', rfl, q⟩
      · exact an.elim
    · exact an.elim
  · exact om_ne hu W pins s σ H x y v u Q I rx ry ⟨μ, M, a, b, r, qa, qb, an⟩
end
end Br
namespace BrH
open PySem PySem.Spec PyProof.Rows L2 Br He
def neB (K : PySem.W.Frag) (C : Addr) : Bool := (match PySem.W.mroIn K C (.type "object") with
    | some b => b
    | none => false) && (match PySem.W.findIn K (.ref C) "__ne__" with
    | some (some v) => v == .builtin "object.__ne__"
    | _ => false)
theorem neB_ok {K : PySem.W.Frag} {C : Addr} (h : neB K C = true) : PySem.W.mroIn K C (.type "object") = some true ∧ PySem.W.findIn K (.ref C) "__ne__" = some (some (.builtin "object.__ne__")) := by
  unfold neB at h
  obtain ⟨h1, h2⟩ := Bool.and_eq_true_iff.mp h
  refine ⟨?_, ?_⟩
  · split at h1
    · rename_i b e; rw [e, h1]
    · cases h1
  · split at h2
    · rename_i v e; rw [e, beq_iff_eq.mp h2]
    · cases h2
end BrH
end
section
namespace Br
open PySem PySem.Spec PyProof.Rows L2
/-! ### isinstance(x, C), x an instance of C -/
section
variable {X : Cx}
/-- what isinstance asks of an own class -/
structure IsiC (K : PySem.W.Frag) (C : Addr) : Prop where
  cls : Cls K C
  ha : PySem.W.findIn K (.ref C) "__class__" = some (some (.builtin "object.__class__"))
  hn : PySem.W.specialIn K (.builtin "object.__class__") "__get__" = some (some (.builtin "getset_descriptor.__get__"))
  ht : PySem.W.takesIn K (.builtin "object.__class__") = some true
  hm : PySem.W.mroIn K C (.type "object") = some true
def IsiF (X : Cx) (cs : List Str) : Prop := ∀ c ∈ cs, IsiC X.K (He.ga X.K c)
theorem isf_nil : IsiF X [] := fun c h => by cases h
theorem isf_cons {c : Str} {cs : List Str} (h1 : IsiC X.K (He.ga X.K c)) (t : IsiF X cs) : IsiF X (c :: cs) := fun b h => by
  rcases List.mem_cons.mp h with rfl | h
  · exact h1
  · exact t b h
def gIsiO (cs : List Str) : FL := fun ds M => match ds with
  | [d, .gl g] => (match insOf M d with
    | some (_, c, _) => if c = g ∧ c ∈ cs then .ok (.bl true) M else .no
    | none => .no)
  | ds => gIsi ds M
theorem cm_isiO {cs : List Str} (hf : IsiF X cs) : CallM X (.builtin "isinstance") (gIsiO cs) := by
  intro W pins s σ H xs us Q I rv ⟨μ, M, as, r, q, an⟩
  unfold gIsiO at an
  split at an
  · rename_i d g
    split at an
    · rename_i n c fs hi
      split at an
      · rename_i hc
        obtain ⟨hc, hm⟩ := hc
        subst hc
        have f := hf c hm
        obtain ⟨v, r', e, q1, q2⟩ := q.inv_cons
        obtain ⟨v2, r2, e2, q3, q4⟩ := q2.inv_cons
        obtain ⟨ea, eva, dx, gs, h1, h2⟩ := insOf_ok r q1 hi
        rw [e, e2, q4.inv_nil, gl_dv q3, eva] at rv
        exact call_isi pins s σ H _ us Q I rv ⟨.ref (μ n), .ref (He.ga X.K c), .ref (He.ga X.K c), .ref (He.ga X.K c), true, rfl, .own _, .base (.ins h1 f.cls f.ha f.hn f.ht f.hm), by unfold PySem.W.kitOne; simp, ans_pure r dv_bl an⟩
      · exact an.elim
    · exact an.elim
  · exact cm_isi W pins s σ H xs us Q I rv ⟨μ, M, _, r, q, an⟩
end
end Br
namespace BrH
open PySem PySem.Spec PyProof.Rows L2 Br He
def isiB (K : PySem.W.Frag) (C : Addr) : Bool := ((match PySem.W.findIn K (.ref C) "__class__" with
    | some (some v) => v == .builtin "object.__class__"
    | _ => false) && (match PySem.W.specialIn K (.builtin "object.__class__") "__get__" with
    | some (some v) => v == .builtin "getset_descriptor.__get__"
    | _ => false)) && ((match PySem.W.takesIn K (.builtin "object.__class__") with
    | some b => b
    | none => false) && (match PySem.W.mroIn K C (.type "object") with
    | some b => b
    | none => false))
theorem isiB_ok {K : PySem.W.Frag} {C : Addr} (cl : Cls K C) (h : isiB K C = true) : IsiC K C := by
  unfold isiB at h
  obtain ⟨h, h'⟩ := Bool.and_eq_true_iff.mp h
  obtain ⟨h1, h2⟩ := Bool.and_eq_true_iff.mp h
  obtain ⟨h3, h4⟩ := Bool.and_eq_true_iff.mp h'
  refine ⟨cl, ?_, ?_, ?_, ?_⟩
  · split at h1
    · rename_i v e; rw [e, beq_iff_eq.mp h1]
    · cases h1
  · split at h2
    · rename_i v e; rw [e, beq_iff_eq.mp h2]
    · cases h2
  · split at h3
    · rename_i b e; rw [e, h3]
    · cases h3
  · split at h4
    · rename_i b e; rw [e, h4]
    · cases h4
end BrH
end
section
namespace Br
open PySem PySem.Spec PyProof.Rows L2
/-! ### repr(x) of an instance with its own __repr__ -/
section
variable {X : Cx}
def strR (r : R D) : R D := match r with
  | .ok (.str z) M => .ok (.str z) M
  | _ => .no
theorem ans_strR {K : PySem.W.Frag} {W1 W2 : W0} {μ : Nat → Addr} {N : Nat} {H : Hp} {r : R D} {Q : VK} (a : Ans K (DV K) W1 μ N H (strR r) Q) : Ans K (DV K) W2 μ N H (noEx r) (fun v H' => (∃ z : Str, v = .str z) ∧ Q v H') := by
  cases r with
  | ok d M =>
    cases d with
    | str z =>
      intro μ' H' v l r' q
      exact ⟨⟨z, by unfold DV at q; exact q⟩, a μ' H' v l r' q⟩
    | _ => exact a.elim
  | ex e M => exact a.elim
  | no => exact a
def gReprO (tb : PTb) : FL := fun ds M => match ds with
  | [d] => (match insOf M d with
    | some (n, c, _) => (match tb.lookup c with
      | some G => strR (G [.ref n] M)
      | none => .no)
    | none => gRepr [d] M)
  | _ => .no
theorem cm_reprO {tb : PTb} (ht : STs_ X "__repr__" 1 tb) (hgd : X.A.guards = some []) (hu : X.A.units + 128 < cLine) : CallM X (.builtin "repr") (gReprO tb) := by
  intro W pins s σ H xs us Q I rx ⟨μ, M, as, r, qa, a⟩
  unfold gReprO at a
  split at a
  · rename_i d
    split at a
    · rename_i n c fs hi
      obtain ⟨v, r', ev, q1, q2⟩ := qa.inv_cons
      obtain ⟨ed, ev2, dx, gs, h1, h2⟩ := insOf_ok r q1 hi
      rw [q2.inv_nil] at ev
      subst ev ed ev2
      obtain ⟨u, rfl, ru⟩ := vals1 rx
      obtain rfl : u = Value.ref (μ n) := ru
      split at a
      · rename_i G hG
        obtain ⟨ga, fd, ps, k, c1, c2, F, hb, hr⟩ := (ht c G hG).ex
        obtain ⟨mA, O, _, _, _, _⟩ := ins_get I.hok h1
        obtain ⟨od, J, _⟩ := O.look
        obtain ⟨m, hF⟩ := I.fr
        refine PySem.W.repr_K (by have := hr.in1.units0; exact this) hF I.ok.mod.kin J c1 (beq_iff_eq.mpr c2) ?_
        have z := run_at (A' := X.A.in1) (us := [Value.ref (μ n)]) (ws := []) (vs := [V.ref (μ n)]) (zs := []) (ks := []) (ds := [.ref n]) (es := []) (E' := X.xe) F hb hr.in1 hgd I.env0.in1 I (.cons rfl .nil) .nil r (DVs.cons q1 DVs.nil) DVs.nil rfl rfl (ans_strR a)
        refine wpAny_mono z (fun v s' hv => ?_) (fun _ _ e => e)
        obtain ⟨V, H', I', rv, ⟨w, ew⟩, q⟩ := hv
        subst ew
        obtain ⟨t, rfl⟩ := rv
        exact ⟨V.str w, H', I', ⟨t, rfl⟩, q⟩
      · exact a.elim
    · exact cm_repr hgd hu W pins s σ H xs us Q I rx ⟨μ, M, _, r, qa, a⟩
  · exact a.elim
end
end Br
end
section
namespace Br
open PySem PySem.Spec PyProof.Rows L2
/-! ### the truth of an instance with an own __len__ -/
section
variable {prog : Program} {w : World} {A : Around} {E : Value → Shared → Prop} {s : Shared} {K : PySem.W.Frag} {x C ga : Addr} {ox : Obj} {od : Option Obj}
theorem room_in2 {k : Nat} {A : Around} (r : Room (k + 1) A) : Room k A.in1.in1.in1 :=
  ⟨r.hd, by have := r.dp; show A.depth + 3 * k + 5 < _; omega, by have := r.un; show A.units + 1 + 1 + 1 + 16 * k + 200 < _; omega⟩
theorem truthy_lenK {Q : Bool → Shared → Prop} (X : K.In s.heap) (I : PySem.W.InstAt s.heap x ox C od) (hb : PySem.W.findIn K (.ref C) "__bool__" = some none)
    (hl : PySem.W.findIn K (.ref C) "__len__" = some (some (.ref ga))) (hf : PySem.W.typeIn K (.ref ga) = some (.type "function"))
    (h : wpAny (model prog w) A.in1 (call (.ref ga) [.ref x]) (fun v s' => ∃ i t, v = .int i t ∧ (0 ≤ i ∧ i < 2 ^ 63) ∧ ∀ tk, Q (i != 0) { s' with toks := tk }) E s) :
    wpAny (model prog w) A (truthy (.ref x)) Q E s := by
  have body : wpAny (model prog w) A.in1 (Builtin.«len» ⟨[.ref x], []⟩) (fun fin s' => ∃ r, fin = .done (.ret r) ∧ ∃ i t, r = .int i t ∧ Q (i != 0) s') E s := by
    unfold Builtin.«len»
    refine wpAny_bind (m := oneArg "len" _) (wpAny_pure ?_)
    refine wpAny_bind (m := callSpecial? (.ref x) (PySem.Str.ofString "__len__")) (PySem.W.special_fn X I hl hf ?_)
    refine wpAny_mono h (fun v s1 hv => ?_) fun _ _ e => e
    obtain ⟨i, t, rfl, ⟨h0, h1⟩, hq⟩ := hv
    refine wpAny_bind (wpAny_holding (wpAny_pure ?_))
    refine wpAny_bind (wpAny_letGo ?_)
    show wpAny _ _ (if i < 0 then _ else _) _ _ _
    rw [if_neg (by omega)]
    show wpAny _ _ (if i ≥ 2 ^ 63 then _ else _) _ _ _
    rw [if_neg (by omega)]
    exact wpAny_bind (wpAny_mkInt (wpAny_pure ⟨_, rfl, _, _, rfl, hq _⟩))
  have key : wpAny (model prog w) A (runValue (.builtin "len" ⟨[.ref x], []⟩)) (fun r s' => ∃ i t, r = .int i t ∧ Q (i != 0) s') E s := by
    refine wpAny_runValue (codeAny_builtin entry_len ?_)
    rw [Around.under_plainId plain_len _]
    exact wpAny_mono body (fun fin s' h' => by obtain ⟨r, rfl, hq⟩ := h'; exact hq) fun _ _ e => e
  have hsp : ∀ {Q' : Option Value → Shared → Prop}, Q' (some (.ref ga)) s → wpAny (model prog w) A (specialOf (.ref x) "__len__") Q' E s := fun q => by
    unfold specialOf
    exact wpAny_bind (I.type.here ((PySem.W.looks_findIn X hl).here q))
  unfold truthy
  first
    | refine wpAny_bind (DSub.special_no (name := Str.ofString "__bool__") X I hb ?_)
    | refine wpAny_bind (wpAny_pure (wpAny_bind (DSub.special_no (name := Str.ofString "__bool__") X I hb ?_)))
  first
    | refine wpAny_bind (hsp ?_)
    | refine wpAny_bind (wpAny_pure (wpAny_bind (hsp ?_)))
  first
    | exact wpAny_bind (wpAny_mono key (fun r s' h' => by obtain ⟨i, t, rfl, hq⟩ := h'; exact wpAny_pure hq) fun _ _ e => e)
    | exact wpAny_bind (wpAny_pure (wpAny_bind (wpAny_mono key (fun r s' h' => by obtain ⟨i, t, rfl, hq⟩ := h'; exact wpAny_pure hq) fun _ _ e => e)))
end
section
variable {X : Cx} {W : WX}
/-- no __bool__ in the classes of tb -/
def NoBl (X : Cx) (tb : PTb) : Prop := ∀ c G, tb.lookup c = some G → PySem.W.findIn X.K (.ref (He.ga X.K c)) "__bool__" = some none
theorem nobl_nil : NoBl X [] := fun c G h => by cases h
theorem nobl_cons {c : Str} {G : FL} {tb : PTb} (h1 : NoAttr X.K (He.ga X.K c) "__bool__") (t : NoBl X tb) : NoBl X ((c, G) :: tb) := fun b G' h => by
  rw [List.lookup_cons] at h
  split at h
  · rename_i hb
    cases h
    rw [eq_of_beq hb]; exact h1
  · exact t b G' h
def truR (r : R D) : R Bool := (lenR r).bind fun v M2 => match v with
  | .int i => .ok (i != 0) M2
  | _ => .no
def truO (tb : PTb) (d : D) (M : Mem) : R Bool := match insOf M d with
  | some (n, c, _) => (match tb.lookup c with
    | some G => truR (G [.ref n] M)
    | none => .no)
  | none => (match truD M d with
    | some b => .ok b M
    | none => .no)
theorem ans_truR {K : PySem.W.Frag} {W1 W2 : W0} {μ : Nat → Addr} {N : Nat} {H : Hp} {r : R D} {Q : Bool → Hp → Prop} (a : Ans K BV W1 μ N H (truR r) Q) : Ans K (DV K) W2 μ N H (noEx r) (fun v H' => ∃ i : Int, v = .int i ∧ (0 ≤ i ∧ i < 2 ^ 63) ∧ Q (i != 0) H') := by
  cases r with
  | ok d M =>
    cases d with
    | int i =>
      unfold truR lenR at a
      dsimp only at a
      split at a
      · rename_i hi
        intro μ' H' v l r' q
        exact ⟨i, by unfold DV at q; exact q, hi, a μ' H' _ l r' rfl⟩
      · exact a.elim
    | _ => exact a.elim
  | ex e M => exact a.elim
  | no => exact a
theorem truO_ins {tb : PTb} {A' : Around} {pins : List (Addr × Obj)} {σ : L2.St} {H : Hp} {s : Shared} {Q : Bool → Hp → Prop} {μ : Nat → Addr} {M : Mem} {x : V} {v : Value} {n : Nat} {c : Str} {fs : List (Str × D)} {G : FL} {d : D} {W1 : W0} {E' : Value → Shared → Prop}
    (ht : STs_ X "__len__" 1 tb) (hn : NoBl X tb) (hgd : A'.in1.guards = some []) (hrm : ∀ k, Room (k + 1) X.A → Room k A'.in1) (e0 : Env0 X.prog X.w X.K X.mg X.base A'.in1 X.stack s H) (I : Inv X pins σ H s) (rx : RelV x v)
    (r : Rel X.K μ M H) (q : DV X.K μ M.length H d x) (hi : insOf M d = some (n, c, fs)) (hG : tb.lookup c = some G) (a : Ans X.K BV W1 μ M.length H (truR (G [.ref n] M)) Q) :
    wpAny (model X.prog X.w) A' (truthy v) (fun b s' => ∃ H', Inv X pins σ H' s' ∧ Q b H') E' s := by
  obtain ⟨ed, ev2, dx, gs, h1, h2⟩ := insOf_ok r q hi
  subst ed ev2
  obtain rfl : v = Value.ref (μ n) := rx
  obtain ⟨ga, fd, ps, k, c1, c2, F, hb, hr⟩ := (ht c G hG).ex
  obtain ⟨mA, O, _, _, _, _⟩ := ins_get I.hok h1
  obtain ⟨od, J, _⟩ := O.look
  refine truthy_lenK I.kIn J (hn c G hG) c1 c2 ?_
  have z := run_at (A' := A'.in1) (us := [Value.ref (μ n)]) (ws := []) (vs := [V.ref (μ n)]) (zs := []) (ks := []) (ds := [.ref n]) (es := []) (E' := E') F hb (hrm _ hr) hgd e0 I (.cons rfl .nil) .nil r (DVs.cons q DVs.nil) DVs.nil rfl rfl (ans_truR a)
  refine wpAny_mono z (fun v s' hv => ?_) (fun _ _ e => e)
  obtain ⟨V, H', I', rv, ⟨i, ei, hi, q⟩⟩ := hv
  subst ei
  obtain ⟨t, rfl⟩ := rv
  exact ⟨i, t, rfl, hi, fun tk => ⟨H', I'.tok _, q⟩⟩
def tTO (tb : PTb) (f : FE) : FT := fun ρ M => (f ρ M).bind fun d M1 => truO tb d M1
theorem mt_truO {tb : PTb} {a : Expr} {fa : FE} (ht : STs_ X "__len__" 1 tb) (hn : NoBl X tb) (hgd : X.A.guards = some []) (ha : ME X W a fa) (he : ∀ whole, isTrue a X.env whole = (do let v ← whole; standAt a.pos; holding [v] (truthy v)) := by intro _; rfl) : MT X W a (tTO tb fa) := by
  refine ⟨fun pins s σ H Q I h => ?_⟩
  refine isTrue_plain (thn (ha.run pins s σ H _ I (tM.seq (rel := DV X.K) h)) fun v s1 ⟨x, H1, I1, r1, μ, M, ρ, d, r, e, q, a1⟩ => ?_) (he _)
  unfold truO at a1
  split at a1
  · rename_i n c fs hi
    split at a1
    · rename_i G hG
      exact truO_ins ht hn hgd (fun k hr => hr.in1) I1.env0.in1 I1 r1 r q hi hG a1
    · exact a1.elim
  · split at a1
    · rename_i b hb
      exact tru_ok pins s1 σ H1 x v _ I1 r1 ⟨b, truD_ok r q hb, a1 μ H1 b (Lift.refl ..) r rfl⟩
    · exact a1.elim
def blM (r : R Bool) : R D := r.bind fun b M => .ok (.bl b) M
def gBoolO (tb : PTb) : FL := fun ds M => match ds with
  | [d] => (match insOf M d with
    | some (n, c, _) => (match tb.lookup c with
      | some G => blM (truR (G [.ref n] M))
      | none => .no)
    | none => .no)
  | _ => .no
theorem ans_blM {K : PySem.W.Frag} {W1 : W0} {μ : Nat → Addr} {N : Nat} {H : Hp} {r : R Bool} {Q : VK} (a : Ans K (DV K) W1 μ N H (blM r) Q) : Ans K BV W1 μ N H r (fun b H' => Q (.bl b) H') := by
  cases r with
  | ok d M => exact fun μ' H' v l r' q => by have q' : d = v := q; subst q'; exact a μ' H' _ l r' (by unfold DV; rfl)
  | ex e M => exact a
  | no => exact a
theorem new_bl (x : Value) (prog : Program) (w : World) : MeetsIn prog w (Builtin.«bool.__new__» ⟨[.type "bool", x], []⟩) (fun A R s => wpAny (model prog w) A.in1 (truthy x) (fun b s' => R (.ok (.ret (.bool b))) s') (fun e s' => R (.error e) s') s) :=
  .of_wp fun A R s h => by
    have f1 := F.conv_sub_bool
    unfold Builtin.«bool.__new__»
    repeat (any_goals (first | assumption | (with_reducible refine wpAny_bind (wpAny_mono h (fun b s' hb => ?_) fun _ _ e => e)) | wp_step))
    all_goals first | exact ⟨_, rfl, hb⟩ | assumption | skip
theorem cm_boolO {tb : PTb} (ht : STs_ X "__len__" 1 tb) (hn : NoBl X tb) (hgd : X.A.guards = some []) : CallM X (.type "bool") (gBoolO tb) := by
  intro W pins s σ H xs us Q I rx ⟨μ, M, as, r, qa, a⟩
  unfold gBoolO at a
  split at a
  · rename_i d
    split at a
    · rename_i n c fs hi
      obtain ⟨v, r', ev, q1, q2⟩ := qa.inv_cons
      rw [q2.inv_nil] at ev
      subst ev
      obtain ⟨u, rfl, ru⟩ := vals1 rx
      split at a
      · rename_i G hG
        refine callType_newIn F.called_bool F.newNe_bool (F.typeCall_bool_1 _) (F.newCall_bool_1 _) (fun obj => F.args_object_init_2 obj _) F.entry_bool_new (new_bl u X.prog X.w) ?_
        refine wpAny_mono (truO_ins (A' := X.A.in1.in1) ht hn hgd (fun k hr => room_in2 hr) I.env0.in1.in1.in1 I ru r q1 hi hG (ans_blM a)) (fun b s' hb => ?_) fun _ _ e => e
        obtain ⟨H', I', q⟩ := hb
        exact ⟨rfl, .bl b, H', I', rfl, q⟩
      · exact a.elim
    · exact a.elim
  · exact a.elim
/-! ### o.reverse() -/
def gRevL : D → Mem → R D := fun x M => match x with
  | .ref n => (match M[n]? with
    | some (.lst xs) => .ok .non (M.set n (.lst xs.reverse))
    | _ => .no)
  | _ => .no
def eRevL (fo : FE) : FE := fun ρ M => (fo ρ M).bind fun x M1 => gRevL x M1
theorem me_revL {o : Expr} {fo : FE} {apos cpos : Pos} (ho : ME X W o fo) (hbase : attributeBase o "reverse" X.env (eval o X.env) = eval o X.env := by rfl) (hline : (apos.endLine == cpos.line) = true := by rfl) :
    ME X W (.Call (.Attribute o "reverse" apos) [] [] cpos) (eRevL fo) := by
  refine ⟨fun pins s σ H Q I h => ?_⟩
  refine (pe_bm0 PySem.F.plainAttrs_list PySem.F.slot_list_reverse PySem.F.type_list_reverse mt_reverse ho hbase hline).run pins s σ H Q I ?_
  refine tM.mono (fun v H1 ⟨μ, M, ρ, d, r, e, q, a1⟩ => ?_) (tM.seq (rel := DV X.K) h)
  unfold gRevL at a1
  split at a1
  · rename_i n
    split at a1
    · rename_i xs hx
      obtain ⟨hn, ev⟩ := ref_dv q
      subst ev
      obtain ⟨ys, hy, dy⟩ := r.obj n _ hx
      refine ⟨.inl ⟨rfl, ys, SqL.of hy⟩, μ n, ys, rfl, rfl, hy, ?_⟩
      have p := put_lst r hx hy dy.reverse
      exact a1 μ _ _ p.2 p.1 (by unfold DV; rfl)
    · exact a1.elim
  · exact a1.elim
/-! ### for i, x in enumerate(..) -/
def enumD (ds : List D) : List D := ds.zipIdx.map fun p => D.tup [D.int p.2, p.1]
def sForEnL (gg : FG) (b : FStm) (n : Nat) : Nat → Nat → FStm
  | 0, _ => fun _ _ => .no
  | m + 1, i => fun ρ M => match M[n]? with
    | some (.lst ds) => (match ds[i]? with
      | none => .go .nx ρ M
      | some x => turn gg b (D.tup [D.int i, x]) (sForEnL gg b n m (i + 1)) ρ M)
    | _ => .no
def sForEn (m : Nat) (fa : FE) (gg : FG) (b : FStm) : FStm := fun ρ M => SR.of (fa ρ M) ρ fun d M1 => match d with
  | .lst ds => sFor gg b (enumD ds) ρ M1
  | .ref n => (match M1[n]? with
    | some (.lst _) => sForEnL gg b n m 0 ρ M1
    | _ => .no)
  | _ => .no
theorem enumD_length (ds : List D) : (enumD ds).length = ds.length := by simp [enumD]
theorem enumD_get {ds : List D} {i : Nat} {d : D} (h : ds[i]? = some d) : (enumD ds)[i]? = some (D.tup [D.int i, d]) := by
  simp [enumD, List.getElem?_zipIdx, h]
/-- one item in a pair -/
def fe1 (fa : FE) : FA := fun ρ M => (fa ρ M).bind fun d M1 => .ok [d] M1
theorem turn_ans {K : PySem.W.Frag} {μ : Nat → Addr} {M : Mem} {H : Hp} {σ : L2.St} {ρ : En} {D : Ends} {gg : FG} {b : FStm} {x : Br.D} {xv : V} {k : En → Mem → SR} {Nx : L2.St → Hp → Prop} (r : Rel K μ M H) (e : EV K μ M.length H ρ σ) (q : DV K μ M.length H x xv)
    (a : AnsS K W μ M.length H (turn gg b x k ρ M) D)
    (hk : ∀ μ4 M2 ρ2 H4 σ4, Lift μ M.length H μ4 M2.length H4 → Rel K μ4 M2 H4 → EV K μ4 M2.length H4 ρ2 σ4 → AnsS K W μ4 M2.length H4 (k ρ2 M2) D → Nx σ4 H4) :
    ∃ μ M ρ d, Rel K μ M H ∧ EV K μ M.length H ρ σ ∧ DV K μ M.length H d xv ∧ AnsS K W μ M.length H (gg d ρ M) { nx := fun σ2 H2 => tSt K W b { D with nx := Nx, ct := Nx, bk := D.nx } σ2 H2, rt := fun _ _ => False } := by
  refine ⟨μ, M, ρ, x, r, e, q, ?_⟩
  unfold turn at a
  cases hg : gg x ρ M with
  | go f ρ1 M1 =>
    rw [hg] at a
    cases f with
    | nx =>
      refine fun μ1 H3 σ1 l1 r1 q1 => ⟨μ1, M1, ρ1, r1, q1, ?_⟩
      dsimp only at a
      have a3 := AnsS.rebase l1 a
      cases hb : b ρ1 M1 with
      | go f ρ2 M2 =>
        rw [hb] at a3
        cases f with
        | nx => exact fun μ4 H4 σ4 l4 r4 q4 => hk μ4 M2 ρ2 H4 σ4 (l1.trans l4) r4 q4 (AnsS.rebase l4 a3)
        | ct => exact fun μ4 H4 σ4 l4 r4 q4 => hk μ4 M2 ρ2 H4 σ4 (l1.trans l4) r4 q4 (AnsS.rebase l4 a3)
        | bk => exact a3
        | ret d => exact a3
      | ex x ρ2 M2 => rw [hb] at a3; exact a3
      | no => rw [hb] at a3; exact a3.elim
    | bk => exact a.elim
    | ct => exact a.elim
    | ret d => exact a.elim
  | ex x ρ1 M1 => rw [hg] at a; exact a.elim
  | no => rw [hg] at a; exact a.elim
theorem ms_forEn {a : Expr} {elts : List Expr} {kk : Nat} {tpos p cpos pos : Pos} {body : List Stmt} {fa : FE} {gg : FG} {g : FStm} (m : Nat) (hp : PassesOwn (model X.prog X.w) X.A X.env X.xe) (hc : X.calm = true) (hG : Gl X "enumerate") (hm : X.mg "enumerate" = none) (ha : ME X W a fa) (hg : MG X W (.Tuple elts kk tpos) gg) (hb : MSs X W body g)
    (hs : starEach [a] X.env = [(false, eval a X.env)] := by rfl) (hf : ∀ x, foldedSetIterable (.Call (.Name "enumerate" p) [a] [] cpos) X.env x = pure x := by intro _; rfl) :
    MS X W (.For (.Tuple elts kk tpos) (.Call (.Name "enumerate" p) [a] [] cpos) body [] pos) (sForEn m fa gg g) := by
  have ha' : MA X W [a] (fe1 fa) := ma_cons ha ma_nil hs
  refine PS.weak (ps_for hp hc (pi_enum hG hm ha' hs) hg hb hf) fun D σ H h => ?_
  have h' : tSt X.K W (fun ρ M => SR.of (fe1 fa ρ M) ρ fun ds M1 => match ds with
    | [d] => (match d with
      | .lst ds => sFor gg g (enumD ds) ρ M1
      | .ref n => (match M1[n]? with
        | some (.lst _) => sForEnL gg g n m 0 ρ M1
        | _ => .no)
      | _ => .no)
    | _ => .no) D σ H := by
    obtain ⟨μ, M, ρ, r, e, a⟩ := h
    refine ⟨μ, M, ρ, r, e, ?_⟩
    unfold sForEn at a
    show AnsS X.K W μ M.length H (SR.of ((fa ρ M).bind fun d M1 => R.ok [d] M1) ρ _) D
    cases hfa : fa ρ M with
    | ok d M1 => rw [hfa] at a; exact a
    | ex e M1 => rw [hfa] at a; exact a
    | no => rw [hfa] at a; exact a
  refine tM.mono (fun vs H1 ⟨μ, M, ρ, ds, r, e, q, a⟩ => ?_) (tSt.expr (rel := DVs X.K) h')
  split at a
  · rename_i d
    obtain ⟨v, rr, ev, q1, q2⟩ := q.inv_cons
    rw [q2.inv_nil] at ev
    subst ev
    split at a
    · rename_i ds
      obtain ⟨l, xs, ev, sf, dq⟩ := lst_dv q1
      subst ev
      refine ⟨l, xs, rfl, sf.seq, fun i m' σ' H' => m' = ds.length - i ∧ i ≤ ds.length ∧ ∃ μ' M' ρ', Lift μ M.length H1 μ' M'.length H' ∧ Rel X.K μ' M' H' ∧ EV X.K μ' M'.length H' ρ' σ' ∧ AnsS X.K W μ' M'.length H' (sFor gg g ((enumD ds).drop i) ρ' M') D,
        ⟨_, rfl, Nat.zero_le _, μ, M, ρ, Lift.refl .., r, e, a⟩, ?_⟩
      rintro i m' σ' H' ⟨rfl, hi, μ', M', ρ', lf, r', e', a'⟩
      have sl : SqL X.K H' l xs := (lf.kp.sqF sf).seq
      have dq' := dq.lift lf
      by_cases hlt : i < ds.length
      · have hd : ds[i]? = some ds[i] := by simp [hlt]
        obtain ⟨xv, hx, dv⟩ := dq'.get hd
        refine .inr ⟨⟨xs, xv, sl, hx⟩, fun σ2 H2 => ∃ m', m' < ds.length - i ∧ (m' = ds.length - (i + 1) ∧ i + 1 ≤ ds.length ∧ ∃ μ' M' ρ', Lift μ M.length H1 μ' M'.length H2 ∧ Rel X.K μ' M' H2 ∧ EV X.K μ' M'.length H2 ρ' σ2 ∧ AnsS X.K W μ' M'.length H2 (sFor gg g ((enumD ds).drop (i + 1)) ρ' M') D),
          fun σ2 H2 z => z, fun y H2 hy => ?_⟩
        obtain ⟨T, x, eT, hT, eH, hxs⟩ := hy
        subst eT; subst eH
        have e2 := hxs xs sl
        rw [hx] at e2
        cases e2
        have hel : i < (enumD ds).length := by rw [enumD_length]; exact hlt
        have heq : (enumD ds)[i] = Br.D.tup [Br.D.int i, ds[i]] := by
          have z := enumD_get hd
          rw [List.getElem?_eq_getElem hel] at z
          exact Option.some.inj z
        rw [List.drop_eq_getElem_cons hel, heq] at a'
        have lf2 : Lift μ' M'.length H' μ' M'.length (upd H' T (.tup [.int (i : Nat), xv])) := Lift.fresh hT
        exact turn_ans (r'.fresh hT) (e'.lift lf2) (dv_tup (SqT.of upd_same) (DVs.cons dv_int (DVs.cons (dv.lift lf2) DVs.nil))) (AnsS.rebase lf2 a')
          fun μ4 M2 ρ2 H4 σ4 l4 r4 q4 a4 => ⟨_, by omega, rfl, hlt, μ4, M2, ρ2, (lf.trans lf2).trans l4, r4, q4, a4⟩
      · have e2 : i = ds.length := by omega
        subst e2
        have e3 : (enumD ds).drop ds.length = [] := by rw [List.drop_eq_nil_iff, enumD_length]; exact Nat.le_refl _
        rw [e3] at a'
        exact .inl ⟨⟨xs, sl, by rw [dq.length]; exact Nat.le_refl _⟩, a' μ' H' σ' (Lift.refl ..) r' e'⟩
    · rename_i n
      split at a
      · rename_i ds0 hds0
        obtain ⟨hn, ev⟩ := ref_dv q1
        subst ev
        obtain ⟨xs0, hx0, _⟩ := r.obj n _ hds0
        refine ⟨μ n, xs0, rfl, SqL.of hx0, fun i m' σ' H' => ∃ μ' M' ρ', Lift μ M.length H1 μ' M'.length H' ∧ Rel X.K μ' M' H' ∧ EV X.K μ' M'.length H' ρ' σ' ∧ AnsS X.K W μ' M'.length H' (sForEnL gg g n m' i ρ' M') D, ⟨m, μ, M, ρ, Lift.refl .., r, e, a⟩, ?_⟩
        rintro i m' σ' H' ⟨μ', M', ρ', l, r', e', a'⟩
        cases m' with
        | zero => exact a'.elim
        | succ m' =>
          unfold sForEnL at a'
          split at a'
          · rename_i ds hds
            obtain ⟨xs, hx, dx⟩ := r'.obj n _ hds
            have eμ : μ' n = μ n := l.same n hn
            rw [eμ] at hx
            split at a'
            · rename_i hnone
              have hl : ds.length ≤ i := List.getElem?_eq_none_iff.mp hnone
              exact .inl ⟨⟨xs, SqL.of hx, by rw [dx.length]; exact hl⟩, a' μ' H' σ' (Lift.refl ..) r' e'⟩
            · rename_i d hd
              obtain ⟨xv, hv, dv⟩ := dx.get hd
              refine .inr ⟨⟨xs, xv, SqL.of hx, hv⟩, fun σ2 H2 => ∃ μ' M' ρ', Lift μ M.length H1 μ' M'.length H2 ∧ Rel X.K μ' M' H2 ∧ EV X.K μ' M'.length H2 ρ' σ2 ∧ AnsS X.K W μ' M'.length H2 (sForEnL gg g n m' (i + 1) ρ' M') D, fun σ2 H2 z => ⟨m', Nat.lt_succ_self _, z⟩, fun y H2 hy => ?_⟩
              obtain ⟨T, x, eT, hT, eH, hxs⟩ := hy
              subst eT; subst eH
              have e2 := hxs xs (SqL.of hx)
              rw [hv] at e2
              cases e2
              have lf2 : Lift μ' M'.length H' μ' M'.length (upd H' T (.tup [.int (i : Nat), xv])) := Lift.fresh hT
              exact turn_ans (r'.fresh hT) (e'.lift lf2) (dv_tup (SqT.of upd_same) (DVs.cons dv_int (DVs.cons (dv.lift lf2) DVs.nil))) (AnsS.rebase lf2 a')
                fun μ4 M2 ρ2 H4 σ4 l4 r4 q4 a4 => ⟨μ4, M2, ρ2, (l.trans lf2).trans l4, r4, q4, a4⟩
          · exact a'.elim
      · exact a.elim
    · exact a.elim
  · exact a.elim
/-! ### try: body / except ..: .., the body raises nothing -/
def sTry0 (g : FStm) : FStm := fun ρ M => match g ρ M with
  | .ex _ _ _ => .no
  | r => r
theorem ms_try0 {body : List Stmt} {h₀ : ExceptHandler} {hs : List ExceptHandler} {pos : Pos} {g : FStm} (hb : MSs X.nox (fun _ _ _ _ => False) body g) : MS X W (.Try body (h₀ :: hs) [] [] pos) (sTry0 g) := by
  refine PS.weak (ps_try_thru0 hb) fun D σ H ⟨μ, M, ρ, r, e, a⟩ => ⟨μ, M, ρ, r, e, ?_⟩
  unfold sTry0 at a
  cases hg : g ρ M with
  | go f ρ1 M1 => rw [hg] at a; cases f <;> exact a
  | ex x ρ1 M1 => rw [hg] at a; exact a.elim
  | no => rw [hg] at a; exact a.elim
theorem takes_nox {X : Cx} : L2N.Takes X.nox (fun _ _ _ _ => False) := fun _ _ ⟨_, _, _, _, _, _, _, _, _, _, _, _, _, _, _, _, w⟩ => w.elim
end
end Br
end
section
namespace Br
open PySem PySem.Spec PyProof.Rows L2
/-! ### f'..' of texts and ints -/
section
variable {X : Cx} {W : WX}
def fmtD : D → Option Str
  | .str y => if y.length ≤ sizeLine then some y else none
  | .int i => if i.natAbs.log2 < 1920 then some (toString i) else none
  | _ => none
def eFmt (f : FE) : FE := fun ρ M => (f ρ M).bind fun d M1 => match fmtD d with
  | some z => .ok (.str z) M1
  | none => .no
theorem me_fmt {e : Expr} {f : FE} {pos : Pos} (he : ME X W e f) : ME X W (.FormattedValue e (-1) none pos) (eFmt f) := by
  refine PE.weak (pe_fmt he) fun σ H Q h => ?_
  refine tM.mono (fun v H1 ⟨μ, M, ρ, d, r, e, q, a1⟩ => ?_) (tM.seq (rel := DV X.K) h)
  split at a1
  · rename_i z hz
    cases d <;> simp only [fmtD] at hz <;> try cases hz
    · rename_i i
      split at hz
      · rename_i hi
        cases hz
        exact .inr ⟨i, int_dv q, hi, a1 μ H1 _ (Lift.refl ..) r dv_str⟩
      · cases hz
    · rename_i y
      split at hz
      · rename_i hi
        cases hz
        exact .inl ⟨_, str_dv q, hi, a1 μ H1 _ (Lift.refl ..) r dv_str⟩
      · cases hz
  · exact a1.elim
def eJs : List FE → Str → FE
  | [], acc => fun _ M => .ok (.str acc) M
  | f :: fs, acc => fun ρ M => (f ρ M).bind fun d M1 => match d with
    | .str y => if (acc ++ y).length ≤ sizeLine then eJs fs (acc ++ y) ρ M1 else .no
    | _ => .no
inductive MJ (X : Cx) (W : WX) : List Expr → List FE → Prop where
  | nil : MJ X W [] []
  | cons {e : Expr} {t : FE} {es : List Expr} {ts : List FE} (h : ME X W e t) (r : MJ X W es ts) : MJ X W (e :: es) (t :: ts)
theorem mj_nil : MJ X W [] [] := .nil
theorem mj_cons {e : Expr} {t : FE} {es : List Expr} {ts : List FE} (h : ME X W e t) (r : MJ X W es ts) : MJ X W (e :: es) (t :: ts) := .cons h r
theorem MJ.pj {es : List Expr} {ts : List FE} (h : MJ X W es ts) : PJ X es (ts.map fun f => tM X.K (DV X.K) W f) := by
  induction h with
  | nil => exact .nil
  | cons h r ih => exact .cons h ih
theorem tJs_of {K : PySem.W.Frag} : ∀ (fs : List FE) (acc : Str) (σ : L2.St) (H : Hp) (Q : VK), tM K (DV K) W (eJs fs acc) σ H Q → tJs (fs.map fun f => tM K (DV K) W f) acc σ H fun out H1 => Q (.str out) H1
  | [], acc, σ, H, Q, ⟨μ, M, ρ, r, e, a⟩ => a μ H (.str acc) (Lift.refl ..) r dv_str
  | f :: fs, acc, σ, H, Q, h => by
    refine tM.mono (fun v H1 ⟨μ, M, ρ, d, r, e, q, a1⟩ => ?_) (tM.seq (rel := DV K) h)
    split at a1
    · rename_i y
      split at a1
      · rename_i hl
        exact ⟨y, str_dv q, hl, tJs_of fs (acc ++ y) σ H1 Q ⟨μ, M, ρ, r, e, a1⟩⟩
      · exact a1.elim
    · exact a1.elim
theorem me_joined {v1 v2 : Expr} {rest : List Expr} {ts : List FE} {pos : Pos} (h : MJ X W (v1 :: v2 :: rest) ts) : ME X W (.JoinedStr (v1 :: v2 :: rest) pos) (eJs ts Str.empty) :=
  PE.weak (pe_joined h.pj) fun σ H Q h => tJs_of ts Str.empty σ H Q h
theorem me_joined1 {e : Expr} {f : FE} {pos : Pos} (he : ME X W e f) : ME X W (.JoinedStr [e] pos) f := pe_joined1 he
end
/-! ### a == b of instances that take object's == -/
section
variable {prog : Program} {w : World} {A : Around} {E : Value → Shared → Prop} {s : Shared} {K : PySem.W.Frag} {x y C : Addr} {ox oy : Obj} {od od' : Option Obj}
theorem call_objEqS (X : K.In s.heap) (I : PySem.W.InstAt s.heap x ox C od) (hm : PySem.W.mroIn K C (.type "object") = some true) {Q : Value → Shared → Prop} (hq : Q (.bool true) s) :
    wpAny (model prog w) A (call (.builtin "object.__eq__") [.ref x, .ref x]) Q E s :=
  wpAny_call (codeAny_call_builtin F.cmp_object.eq.plain F.cmpEntry_eq (PySem.W.check_slot F.cmpKind_eq F.cmpSplit_eq (I.type.andThen (PySem.W.looks_mroIn X hm)) (F.cmpArgs_eq _ _) (objEq_entry_same hq)))
theorem call_objEqO (X : K.In s.heap) (I : PySem.W.InstAt s.heap x ox C od) (hm : PySem.W.mroIn K C (.type "object") = some true) (hxy : x ≠ y) (hx : s.heap.get? x = some ox) (hy : s.heap.get? y = some oy) (hnt : ox.cls ≠ .type "tuple") {Q : Value → Shared → Prop} (hq : Q .notImplemented s) :
    wpAny (model prog w) A (call (.builtin "object.__eq__") [.ref x, .ref y]) Q E s :=
  wpAny_call (codeAny_call_builtin F.cmp_object.eq.plain F.cmpEntry_eq (PySem.W.check_slot F.cmpKind_eq F.cmpSplit_eq (I.type.andThen (PySem.W.looks_mroIn X hm)) (F.cmpArgs_eq _ _) (objEq_entry_other hxy hx hy hnt hq)))
theorem rc_same {Q : Value → Shared → Prop} (hu : A.units < cLine) (X : K.In s.heap) (I : PySem.W.InstAt s.heap x ox C od) (hm : PySem.W.mroIn K C (.type "object") = some true) (hs : PySem.W.findIn K (.ref C) "__eq__" = some (some (.builtin "object.__eq__")))
    (h : Q (.bool true) s) : wpAny (model prog w) A (richCompare .Eq (.ref x) (.ref x)) Q E s := by
  have one : wpAny (model prog w) A (tryCompare (.ref x) "__eq__" (.ref x)) (fun r s' => r = some (.bool true) ∧ s' = s) E s := by
    unfold tryCompare
    exact wpAny_bind (HN.ifBound_objEq X I hs (call_objEqS X I hm (wpAny_pure ⟨rfl, rfl⟩)))
  simp only [richCompare, cmpInfo_Eq, oneThing_ref]
  refine wpAny_holding (wpAny_bind (wpAny_cRoomFor hu ?_))
  refine wpAny_bind (I.type.here (wpAny_bind (I.type.here ?_)))
  split
  · rename_i q
    exact absurd q (by simp)
  · refine wpAny_bind (wpAny_pure ?_)
    simp only [Bool.false_eq_true, if_false]
    refine wpAny_bind (wpAny_mono one (fun r s1 z => ?_) fun _ _ e => e)
    obtain ⟨z1, z2⟩ := z
    subst z1
    subst z2
    exact wpAny_pure h
theorem rc_other {Q : Value → Shared → Prop} (hu : A.units < cLine) (X : K.In s.heap) (I : PySem.W.InstAt s.heap x ox C od) (I' : PySem.W.InstAt s.heap y oy C od') (hx : s.heap.get? x = some ox) (hy : s.heap.get? y = some oy) (hnt : ox.cls ≠ .type "tuple") (hnt' : oy.cls ≠ .type "tuple")
    (hxy : x ≠ y) (hm : PySem.W.mroIn K C (.type "object") = some true) (hs : PySem.W.findIn K (.ref C) "__eq__" = some (some (.builtin "object.__eq__")))
    (h : Q (.bool false) s) : wpAny (model prog w) A (richCompare .Eq (.ref x) (.ref y)) Q E s := by
  have one : wpAny (model prog w) A (tryCompare (.ref x) "__eq__" (.ref y)) (fun r s' => r = none ∧ s' = s) E s := by
    unfold tryCompare
    exact wpAny_bind (HN.ifBound_objEq X I hs (call_objEqO X I hm hxy hx hy hnt (wpAny_pure ⟨rfl, rfl⟩)))
  have two : wpAny (model prog w) A (tryCompare (.ref y) "__eq__" (.ref x)) (fun r s' => r = none ∧ s' = s) E s := by
    unfold tryCompare
    exact wpAny_bind (HN.ifBound_objEq X I' hs (call_objEqO X I' hm (Ne.symm hxy) hy hx hnt' (wpAny_pure ⟨rfl, rfl⟩)))
  have same : wpAny (model prog w) A (isSame (.ref x) (.ref y)) (fun b s' => b = false ∧ s' = s) E s := wpAny_isSame_ref_other hxy hx hy hnt ⟨rfl, rfl⟩
  simp only [richCompare, cmpInfo_Eq, oneThing_ref]
  refine wpAny_holding (wpAny_bind (wpAny_cRoomFor hu ?_))
  refine wpAny_bind (I.type.here (wpAny_bind (I'.type.here ?_)))
  split
  · rename_i q
    exact absurd q (by simp)
  · refine wpAny_bind (wpAny_pure ?_)
    simp only [Bool.false_eq_true, if_false, Bool.not_false, if_true]
    refine wpAny_bind (m := tryCompare (.ref x) _ (.ref y)) (wpAny_mono one (fun r s1 z => ?_) fun _ _ e => e)
    obtain ⟨z1, z2⟩ := z
    subst z1
    subst z2
    refine wpAny_bind (m := tryCompare (.ref y) _ (.ref x)) (wpAny_mono two (fun r s2 z => ?_) fun _ _ e => e)
    obtain ⟨z1, z2⟩ := z
    subst z1
    subst z2
    refine wpAny_bind (wpAny_rule (wpAny_bind (wpAny_mono same (fun b s3 z => ?_) fun _ _ e => e)))
    obtain ⟨z1, z2⟩ := z
    subst z1
    subst z2
    exact wpAny_pure h
end
section
variable {X : Cx} {W : WX}
/-- the classes of cs take object's == -/
def IdOk (X : Cx) (cs : List Str) : Prop := ∀ c ∈ cs, PySem.W.mroIn X.K (He.ga X.K c) (.type "object") = some true ∧ PySem.W.findIn X.K (.ref (He.ga X.K c)) "__eq__" = some (some (.builtin "object.__eq__"))
theorem id_nil : IdOk X [] := fun c h => by cases h
theorem id_cons {c : Str} {cs : List Str} (h1 : PySem.W.mroIn X.K (He.ga X.K c) (.type "object") = some true ∧ PySem.W.findIn X.K (.ref (He.ga X.K c)) "__eq__" = some (some (.builtin "object.__eq__"))) (t : IdOk X cs) : IdOk X (c :: cs) := fun b h => by
  rcases List.mem_cons.mp h with rfl | h
  · exact h1
  · exact t b h
def gEqI (cs : List Str) : F2 := fun x y M => match insOf M x, insOf M y with
  | some (n, c, _), some (n', c', _) => if c = c' ∧ c ∈ cs then .ok (.bl (decide (n = n'))) M else .no
  | _, _ => .no
theorem om_eqI {cs : List Str} (ht : IdOk X cs) (hu : X.A.units + 64 < cLine) : OpM X (compareOp .Eq) (gEqI cs) := by
  intro W pins s σ H x y v u Q I rx ry ⟨μ, M, a, b, r, qa, qb, an⟩
  unfold gEqI at an
  split at an
  · rename_i n c fs n' c' fs' hi hi'
    split at an
    · rename_i hcc
      obtain ⟨hcc, hmem⟩ := hcc
      subst hcc
      obtain ⟨ea, eva, dx, gs, h1, h2⟩ := insOf_ok r qa hi
      obtain ⟨eb, evb, dx', gs', h1', h2'⟩ := insOf_ok r qb hi'
      subst ea eb eva evb
      obtain rfl : v = Value.ref (μ n) := rx
      obtain rfl : u = Value.ref (μ n') := ry
      obtain ⟨hm, hs⟩ := ht c hmem
      obtain ⟨hn, _⟩ := ref_dv qa
      obtain ⟨hn', _⟩ := ref_dv qb
      obtain ⟨mA, O, g1, g2, _, _⟩ := ins_get I.hok h1
      obtain ⟨od, J, _⟩ := O.look
      obtain ⟨mB, O', g1', g2', _, _⟩ := ins_get I.hok h1'
      obtain ⟨od', J', _⟩ := O'.look
      by_cases hnn : n = n'
      · subst hnn
        refine PySem.W.cmp_ofEq (rc_same (by omega) I.kIn J hm hs ?_)
        exact ⟨.bl true, H, I, rfl, an μ H _ (Lift.refl ..) r (by simp [DV])⟩
      · have hne : μ n ≠ μ n' := fun z => hnn (r.inj _ _ hn hn' z)
        refine PySem.W.cmp_ofEq (rc_other (by omega) I.kIn J J' J.at_ J'.at_ ?_ ?_ hne hm hs ?_)
        · rw [J.cls]; intro z; cases z
        · rw [J'.cls]; intro z; cases z
        · exact ⟨.bl false, H, I, rfl, an μ H _ (Lift.refl ..) r (by simp [DV, hnn])⟩
    · exact an.elim
  · exact an.elim
/-! ### d.setdefault(k, x) -/
def gDSet : D → D → D → Mem → R D := fun x y d M => match x, keyD y with
  | .ref n, some k => (match M[n]? with
    | some (.dic kvs) => if kvs.length < sizeLine then (match valD kvs k with
      | some v => .ok v M
      | none => .ok d (M.set n (.dic (putKD kvs k d)))) else .no
    | _ => .no)
  | _, _ => .no
def eDSet (fo fi fx : FE) : FE := fun ρ M => (fo ρ M).bind fun x M1 => match x with
  | .ref n => (match M1[n]? with
    | some (.dic _) => (fi ρ M1).bind fun y M2 => (fx ρ M2).bind fun z M3 => gDSet (.ref n) y z M3
    | _ => .no)
  | _ => .no
theorem me_dsetd {o i a : Expr} {fo fi fx : FE} {apos cpos : Pos} (ho : ME X W o fo) (hi : ME X W i fi) (hx : ME X W a fx) (m : M2 X o "setdefault" apos i a cpos) : ME X W (.Call (.Attribute o "setdefault" apos) [i, a] [] cpos) (eDSet fo fi fx) := by
  refine PE.weak (pe_dsetd ho hi hx m) fun σ H Q h => ?_
  refine tM.mono (fun v H1 ⟨μ, M, ρ, d, r, e, q, a1⟩ => ?_) (tM.seq (rel := DV X.K) h)
  split at a1
  · rename_i n
    split at a1
    · rename_i kv0 hn0
      obtain ⟨hl, ev⟩ := ref_dv q
      obtain ⟨p0, hp0, hkv0⟩ := r.obj n _ hn0
      have a2 := Ans.bind (rel := DV X.K) a1
      refine ⟨μ n, ev, .inl ⟨p0, .inl hp0⟩, μ, M, ρ, r, e, a2.mono (fun y H2 ⟨μ1, M1, d1, l, r1, q1, a3⟩ => ?_) fun _ _ _ z => z⟩
      have a4 := Ans.bind (rel := DV X.K) a3
      refine ⟨μ1, M1, ρ, r1, e.lift l, a4.mono (fun z H3 ⟨μ2, M2, d2, l2, r2, q2, a5⟩ => ?_) fun _ _ _ z => z⟩
      have q1' := q1.lift l2
      unfold gDSet at a5
      split at a5
      · rename_i _ _ n' k en hk
        cases en
        split at a5
        · rename_i kvs hn
          obtain ⟨ps, hp, hkv⟩ := r2.obj n _ hn
          have hl2 : n < M2.length := (List.getElem?_eq_some_iff.mp hn).1
          have em : μ2 n = μ n := (l2.same n (Nat.lt_of_lt_of_le hl l.le)).trans (l.same n hl)
          rw [em] at hp
          split at a5
          · rename_i hlen
            rcases hkv.find k with ⟨h1, h2⟩ | ⟨dv, w, h1, h2, h3⟩
            · rw [h1] at a5
              refine ⟨ps, k, hp, key_dv hk q1', by rw [hkv.len]; exact hlen, fun v hv => (by rw [h2] at hv; cases hv), fun _ => ?_⟩
              have hp2 : H3 (μ2 n) = some (.dK ps) := by rw [em]; exact hp
              have kl : Lift μ2 M2.length H3 μ2 M2.length (upd H3 (μ2 n) (.dK (L2.putK ps k z))) := ⟨Nat.le_refl _, fun _ _ => rfl, Kp.dK hp2, fun b u e hne => by rw [upd_ne (fun z => hne n hl2 z.symm)]; exact e, fun n h h' => absurd h (Nat.not_le.mpr h'), fun b e => dom_upd e⟩
              have p := r2.put hl2 (m := .dic (putKD kvs k d2)) ⟨_, upd_same, (hkv.putK k q2).lift kl⟩
              have e4 : upd H3 (μ n) (.dK (L2.putK ps k z)) = upd H3 (μ2 n) (.dK (L2.putK ps k z)) := by rw [em]
              rw [e4]
              exact a5 μ2 _ _ p.2 p.1 (q2.lift p.2)
            · rw [h1] at a5
              exact ⟨ps, k, hp, key_dv hk q1', by rw [hkv.len]; exact hlen, fun v hv => (by rw [h2] at hv; cases hv; exact a5 μ2 H3 _ (Lift.refl ..) r2 h3), fun hv => (by rw [h2] at hv; cases hv)⟩
          · exact a5.elim
        · exact a5.elim
      · exact a5.elim
    · exact a1.elim
  · exact a1.elim
end
end Br
namespace BrH
open PySem PySem.Spec PyProof.Rows L2 Br He
def idB (K : PySem.W.Frag) (C : Addr) : Bool := (match PySem.W.mroIn K C (.type "object") with
    | some b => b
    | none => false) && (match PySem.W.findIn K (.ref C) "__eq__" with
    | some (some v) => v == .builtin "object.__eq__"
    | _ => false)
theorem idB_ok {K : PySem.W.Frag} {C : Addr} (h : idB K C = true) : PySem.W.mroIn K C (.type "object") = some true ∧ PySem.W.findIn K (.ref C) "__eq__" = some (some (.builtin "object.__eq__")) := by
  unfold idB at h
  obtain ⟨h1, h2⟩ := Bool.and_eq_true_iff.mp h
  refine ⟨?_, ?_⟩
  · split at h1
    · rename_i b e; rw [e, h1]
    · cases h1
  · split at h2
    · rename_i v e; rw [e, beq_iff_eq.mp h2]
    · cases h2
end BrH
end
section
namespace Br
open PySem PySem.Spec PyProof.Rows L2
/-! ### a list times a number, as a list of the memory -/
section
variable {X : Cx}
def gRepN : F2 := fun x y M => match x, y with
  | .ref n, .int k => (match M[n]? with
    | some (.lst xs) => if (-(2 ^ 63) ≤ k ∧ k < 2 ^ 63) ∧ xs.length * k.toNat ≤ sizeLine then .ok (.ref M.length) (M ++ [.lst (List.replicate k.toNat xs).flatten]) else .no
    | _ => .no)
  | _, _ => .no
theorem om_repN : OpM X (binaryOp .Mult) gRepN := by
  intro W pins s σ H x y v u Q I rx ry ⟨μ, M, a, b, r, qa, qb, an⟩
  unfold gRepN at an
  split at an
  · rename_i n k
    split at an
    · rename_i xs hn
      split at an
      · rename_i hk
        obtain ⟨hl, ev⟩ := ref_dv qa
        subst ev
        rw [int_dv qb] at ry
        obtain ⟨ys, hy, dy⟩ := r.obj n _ hn
        exact op_rep pins s σ H _ _ v u Q I rx ry ⟨μ n, k, ys, rfl, rfl, hy, hk.1.1, hk.1.2, by rw [dy.length]; exact hk.2, fun p hp => ans_new r (dy.rep _) an p hp⟩
      · exact an.elim
    · exact an.elim
  · exact an.elim
end
end Br
end
section
namespace Br
open PySem PySem.Spec PyProof.Rows L2
section
variable {X : Cx} {W : WX} {a e o : Expr} {fa fo : FE} {g : FA} {p p2 pos apos cpos : Pos}
theorem me_lstRgV (hc : X.calm = true) (hg : Gl X "list") (hm : X.mg "list" = none) (hg2 : Gl X "range") (hm2 : X.mg "range" = none) (ha : ME X W a fa)
    (na : starEach [a] X.env = (false, eval a X.env) :: starEach [] X.env := by rfl)
    (nb : starEach [(.Call (.Name "range" p2) [a] [] cpos : Expr)] X.env = (false, eval (.Call (.Name "range" p2) [a] [] cpos) X.env) :: starEach [] X.env := by rfl) :
    ME X W (.Call (.Name "list" p) [.Call (.Name "range" p2) [a] [] cpos] [] pos) (eLstRgV fa) := by
  refine PE.weak (PE.lock (pe_listRg hc hg hm (prg_1 hg2 hm2 ha na) nb)) fun σ H Q h => ?_
  refine tM.mono (fun v H1 ⟨μ, M, ρ, d, r, e, q, a1⟩ => ?_) (tM.seq (rel := DV X.K) h)
  split at a1
  · rename_i n
    split at a1
    · rename_i hn
      exact ⟨n, int_dv q, RgOk.of_le (by decide) hn.2 (by decide) hn.1, fun z hz => ⟨z, _, rfl, upd_same, fun o => ans_lst r (rg_dv n) a1 z hz o⟩⟩
    · exact a1.elim
  · exact a1.elim
/-! ### xs.pop(i) -/
def gPopAt : D → List D → Mem → R D := fun x ds M => match x, ds with
  | .ref n, [.int i] => (match M[n]? with
    | some (.lst xs) => (match xs[i.toNat]? with
      | some d => if 0 ≤ i ∧ i < 2 ^ 62 then .ok d (M.set n (.lst (xs.eraseIdx i.toNat))) else .no
      | none => .no)
    | _ => .no)
  | _, _ => .no
def ePopAt (fo : FE) (g : FA) : FE := fun ρ M => (fo ρ M).bind fun x M1 => match x with
  | .ref n => (match M1[n]? with
    | some (.lst _) => (g ρ M1).bind fun ds M2 => gPopAt x ds M2
    | _ => .no)
  | _ => .no
theorem dvs_erase {K : PySem.W.Frag} {μ : Nat → Addr} {N : Nat} {H : Hp} : ∀ {ds : List D} {vs : List V} (i : Nat), DVs K μ N H ds vs → DVs K μ N H (ds.eraseIdx i) (vs.eraseIdx i)
  | [], vs, i, h => by rw [h.inv_nil]; simpa using DVs.nil
  | d :: ds, vs, i, h => by
    obtain ⟨v, rr, rfl, q1, q2⟩ := h.inv_cons
    cases i with
    | zero => simpa using q2
    | succ i => simpa using DVs.cons q1 (dvs_erase i q2)
theorem me_popAt (ho : ME X W o fo) (ha : MA X W [e] g) (hbase : attributeBase o "pop" X.env (eval o X.env) = eval o X.env := by rfl)
    (hfew : ((backTo cpos (starEach [e] X.env)).all (fun x => !x.1) && (backToKw cpos (keywordEach [] X.env)).all (fun x => x.1.isSome) && decide (([e] : List Expr).length + ([] : List Keyword).length + (if ([] : List Keyword).isEmpty then 0 else 1) < 30)) = true := by rfl)
    (hline : (apos.endLine == cpos.line) = true := by rfl) (hs : starEach [e] X.env = (false, eval e X.env) :: starEach [] X.env := by rfl) (hplain : (backTo cpos (starEach [] X.env)).any (·.1) = false := by rfl) :
    ME X W (.Call (.Attribute o "pop" apos) [e] [] cpos) (ePopAt fo g) := by
  refine ⟨fun pins s σ H Q I h => ?_⟩
  refine (pe_bm PySem.F.plainAttrs_list PySem.F.slot_list_pop PySem.F.type_list_pop mt_popAt ho ha hbase hfew hline hs hplain).run pins s σ H Q I ?_
  refine tM.mono (fun v H1 ⟨μ, M, ρ, d, r, e, q, a1⟩ => ?_) (tM.seq (rel := DV X.K) h)
  split at a1
  · rename_i n
    split at a1
    · rename_i xs hx
      obtain ⟨hn, ev⟩ := ref_dv q
      subst ev
      obtain ⟨ys, hy, _⟩ := r.obj n _ hx
      refine ⟨.inl ⟨rfl, ys, SqL.of hy⟩, ?_⟩
      have a2 := Ans.bind (rel := DVs X.K) a1
      refine ⟨μ, M, ρ, r, e, a2.mono (fun us H2 ⟨μ1, M1, ds, l, r1, q1, a3⟩ => ?_) fun _ _ _ z => z⟩
      unfold gPopAt at a3
      split at a3
      · rename_i _ _ n' i en
        cases en
        obtain ⟨v2, rr, ev, q2, q3⟩ := q1.inv_cons
        rw [q3.inv_nil, int_dv q2] at ev
        subst ev
        split at a3
        · rename_i zs hz
          split at a3
          · rename_i d hd
            split at a3
            · rename_i hi
              obtain ⟨ws, hw, dw⟩ := r1.obj n _ hz
              have eμ : μ1 n = μ n := l.same n hn
              obtain ⟨w', hw', dd⟩ := dw.get hd
              have hlt := (List.getElem?_eq_some_iff.mp hw').1
              have p := put_lst r1 hz hw (dvs_erase i.toNat dw)
              refine ⟨μ n, ws, i, i.toNat, w', rfl, rfl, by rw [← eμ]; exact hw, by omega, by omega, ?_, hw', ?_⟩
              · unfold seqIndex?
                dsimp only
                have e0 : ¬ i < 0 := by omega
                have e1 : i < (ws.length : Int) := by
                  have h1 : i.toNat < ws.length := hlt
                  omega
                simp [e0, e1, hi.1]
              · rw [← eμ]
                exact a3 μ1 _ _ p.2 p.1 (dd.lift (by have := p.2; rw [List.length_set] at this ⊢; exact this))
            · exact a3.elim
          · exact a3.elim
        · exact a3.elim
      · exact a3.elim
    · exact a1.elim
  · exact a1.elim
end
end Br
end
section
namespace Br
open PySem PySem.Spec PyProof.Rows L2
section
variable {X : Cx} {W : WX} {e o fx : Expr} {es : List Expr} {kws : List Keyword} {fo fe : FE} {g g' : FA} {ks : List Str} {x m : Str} {p pos apos : Pos}
/-! ### an instance, called with keywords -/
theorem callO_ofK {M : Model} {A : Around} {E : Value → Shared → Prop} {s : Shared} {a : Addr} {pos : Pos} {Q : Value → Shared → Prop} {args : List (Bool × Sem Value)} {kws : List (Option Str × Sem Value)} (hplain : (args.any (·.1) || kws.any (·.1.isNone)) = false)
    (h : wpAny M A (evalArgs (.ref a) true args kws) (fun z s₁ => (∃ C ox od, PySem.W.InstAt s₁.heap a ox C od ∧ ox.data = .plain) ∧ wpAny M A (call (.ref a) ([] ++ z.pos) z.kw) Q E s₁) E s) : wpAny M A (callWith pos (.ref a) [] args kws) Q E s := by
  unfold callWith
  refine wpAny_bind (wpAny_holding (wpAny_mono h (fun z s₁ h₁ => wpAny_bind (wpAny_standAt ?_)) fun _ _ y => y))
  obtain ⟨⟨C, ox, od, J, hd⟩, h₁⟩ := h₁
  have L := PySem.W.kco_keeper (M := M) J hd
  simp only [hplain]
  refine wpAny_bind (L.here ?_)
  have tail : ∀ {t : Sem Value}, wpAny M A t Q E s₁ → wpAny M A (t >>= fun r => holding [r] point >>= fun _ => pure r) Q E s₁ :=
    fun ht => wpAny_bind (wpAny_mono ht (fun r s₂ hr => wpAny_bind (wpAny_holding (wpAny_point (wpAny_pure hr)))) fun _ _ y => y)
  exact tail (wpAny_operateT h₁)
structure CalOK (X : Cx) (W : WX) (c : Str) (ks : List Str) (G : FCal) : Prop where
  ex : ∃ (g : Addr) (fd : FuncData) (ps : List Str) (k n : Nat) (gD : List D → List D → List D) (fm : FL), StX.CallO X.K (He.ga X.K c) g ∧ FnM X.prog X.w X.K X.mg X.base k g fd ps fm ∧ AB X.prog X.w X.K X.mg X.base fd ps n ks gD ∧ Room k X.A ∧ L2N.Takes X W ∧ G = gC n ks.length gD fm
def OTK_ (X : Cx) (W : WX) (ks : List Str) (tb : MTb) : Prop := ∀ c G, tb.lookup c = some G → CalOK X W c ks G
theorem otk_nil : OTK_ X W ks [] := fun c G h => by cases h
theorem otk_cons {c : Str} {G : FCal} {tb : MTb} (h1 : CalOK X W c ks G) (t : OTK_ X W ks tb) : OTK_ X W ks ((c, G) :: tb) := fun b G' h => by
  rw [List.lookup_cons] at h
  split at h
  · rename_i hb
    cases h
    rw [eq_of_beq hb]; exact h1
  · exact t b G' h
def eInstK (tb : MTb) (a : FE) (g g' : FA) : FE := fun ρ M => (a ρ M).bind fun x M1 => match x with
  | .ref k => (g ρ M1).bind fun ds M2 => (g' ρ M2).bind fun es M3 => (match insOf M3 (.ref k) with
    | some (n, c, _) => (match tb.lookup c with
      | some G => G (.ref n :: ds) es M3
      | none => .no)
    | none => .no)
  | _ => .no
theorem me_instK {tb : MTb} (ht : OTK_ X W ks tb) (hgd : X.A.guards = some []) (hf : ME X W fx fe) (ha : MA X W es g) (hkw : MK X W kws g')
    (hall : (backToKw pos (keywordEach kws X.env)).all (·.1.isSome) = true := by rfl) (hks : (backToKw pos (keywordEach kws X.env)).filterMap (·.1) = ks := by rfl) (hl : lone (backTo pos (starEach es X.env)) = false := by rfl)
    (he2 : eval (.Call fx es kws pos) X.env = (do callWith pos (← eval fx X.env) [] (backTo pos (starEach es X.env)) (backToKw pos (keywordEach kws X.env))) := by rfl)
    (hpl : ((backTo pos (starEach es X.env)).any (·.1) || (backToKw pos (keywordEach kws X.env)).any (·.1.isNone)) = false := by rfl) : ME X W (.Call fx es kws pos) (eInstK tb fe g g') := by
  refine ⟨fun pins s σ H Q I h => ?_⟩
  rw [he2]
  refine wpAny_bind (thn (hf.run pins s σ H _ I (tM.seq (rel := DV X.K) h)) fun u s1 ⟨v, H1, I1, rv, μ, M, ρ, d, r, e, q, a⟩ => ?_)
  cases d with
  | ref b =>
    have a2 := Ans.bind (rel := DVs X.K) a
    obtain ⟨hb1, ev⟩ := (by unfold DV at q; exact q : b < M.length ∧ v = .ref (μ b))
    subst ev
    obtain rfl : u = Value.ref (μ b) := rv
    refine callO_ofK hpl (ea_gen hl hall (thn (ha.run pos pins s1 σ H1 _ I1 ⟨μ, M, ρ, r, e, a2⟩) fun us s2 ⟨vs, H2, I2, rvs, q2⟩ => ?_))
    obtain ⟨μ2, M2, ds, l2, r2, q2, a3⟩ := q2
    have a4 := Ans.bind (rel := DVs X.K) a3
    refine thn (hkw.run pos pins s2 σ H2 _ I2 ⟨μ2, M2, ρ, r2, e.lift l2, a4⟩) fun ws s3 ⟨zs, H3, I3, rz, q3⟩ => ?_
    obtain ⟨μ3, M3, es3, l3, r3, q3, a5⟩ := q3
    have qb := (q.lift l2).lift l3
    split at a5
    · rename_i n c fs hi
      obtain ⟨ed, ev, dx, gs, h1, h2⟩ := insOf_ok r3 qb hi
      cases ed
      have ev' : μ b = μ3 b := V.ref.inj ev
      rw [ev']
      split at a5
      · rename_i G hG
        obtain ⟨ga, fd, ps, k, n', gD, fm, c1, F, hb, hr, tk, rfl⟩ := (ht c G hG).ex
        obtain ⟨ox, od, J, hd⟩ := StX.insC_at I3 (.inr ⟨dx, gs, h1⟩)
        refine ⟨⟨_, ox, od, J, hd⟩, ?_⟩
        unfold gC at a5
        split at a5
        · rename_i hln
          have q' : DV X.K μ3 M3.length H3 (.ref b) (.ref (μ3 b)) := by rw [← ev']; exact qb
          dsimp only
          rw [hks]
          have hbb := hb.bnd X.A X.stack s3 H3 (fun c d H' => W c d σ H') (Value.ref (μ3 b) :: us) ws (V.ref (μ3 b) :: vs) zs μ3 M3 (.ref b :: ds) es3 I3.env0 (by rw [← hln.1, List.length_cons, List.length_cons, ← rvs.length, q2.length]) (by rw [← hln.2, ← rz.length, q3.length]) (.cons rfl rvs) rz r3 (DVs.cons q' (q2.lift l3)) q3
          refine wpAny_call (PySem.W.kco_code I3.kIn J hd c1.at_ c1.fn c1.fi (codeAny_mono (F.run X.A X.stack s3 H3 _ Q _ _ hr hgd I3.env0 hbb fun v H4 ⟨r4, l, q4⟩ => ⟨μ3, M3, _, r4, q4, Ans.rebase l a5⟩) fun r s' hq => ?_))
          cases r with
          | error e => exact tk e s' (L2N.XE.of_call I3 (fun _ _ _ z => z) hq)
          | ok fl =>
            cases fl with
            | ret u => exact I3.after hq
            | next => exact False.elim hq
            | brk => exact False.elim hq
            | cont => exact False.elim hq
        · exact a5.elim
      · exact a5.elim
    · exact a5.elim
  | _ => exact a.elim
/-! ### a field that holds a def, called -/
theorem getfldm_ok {pins : List (Addr × Obj)} {σ : L2.St} {H : Hp} {s : Shared} {a C dx : Addr} {fs : List (Str × V)} {f : Str} {v : V} {A : Around} {E : Value → Shared → Prop} {pl : Sem Bool} {Q : Value × List Value → Shared → Prop} (I : Inv X pins σ H s) (e : H a = some (.ins C dx fs)) (c : Cls X.K C) (n : NoAttr X.K C f) (l : fs.lookup f = some v)
    (h : ∀ u s', Inv X pins σ H s' → RelV v u → Q (u, []) s') : wpAny (model X.prog X.w) A (getMethod (.ref a) f pl) Q E s := by
  obtain ⟨mA, O, r, _, _, _⟩ := ins_get I.hok e
  obtain ⟨od, J, _⟩ := O.look
  have hg := PySem.W.plainGet_of (c.get f)
  exact PySem.W.method_usual I.kIn J hg.1 hg.2 n rfl (getattr_ok I e c n l h)
/-- o.f(..), f a field of the classes cs that holds the def w -/
def eFCall (cs : List Str) (m w : Str) (G : FCal) (a : FE) (g : FA) : FE := fun ρ M => (a ρ M).bind fun x M1 => match getFld cs m M1 x with
  | some (.gl y) => if y = w then (g ρ M1).bind fun ds M2 => G ds [] M2 else .no
  | _ => .no
theorem me_fcall {cs : List Str} {w : Str} {G : FCal} {pl : Sem Bool} (hc : Flds X.K cs m) (hk : PySem.W.keepIn X.K (.ref (He.ga X.K w)) = true) (hG : CalM X W (.ref (He.ga X.K w)) [] G) (ho : ME X W o fo) (ha : MA X W es g)
    (hl : lone (backTo pos (starEach es X.env)) = false := by rfl)
    (he : eval (.Call (.Attribute o m apos) es [] pos) X.env = (do
      let ov ← eval o X.env
      standAt apos.atName
      let (f, first) ← holding [ov] (getMethod ov m pl)
      callWith pos f first (backTo pos (starEach es X.env)) (backToKw pos (keywordEach [] X.env))) := by rfl) :
    ME X W (.Call (.Attribute o m apos) es [] pos) (eFCall cs m w G fo g) := by
  refine ⟨fun pins s σ H Q I h => ?_⟩
  refine PySem.W.methodCall_KW (pl := pl) (thn (ho.run pins s σ H _ I (tM.seq (rel := DV X.K) h)) fun u s1 ⟨v, H1, I1, rv, μ, M, ρ, d, r, e, q, a⟩ => ?_) he
  unfold getFld at a
  cases d with
  | ref n =>
    dsimp only at a
    cases hn : M[n]? with
    | none => rw [hn] at a; exact a.elim
    | some ob =>
      rw [hn] at a
      cases ob with
      | ins c fs =>
        dsimp only at a
        by_cases hm : c ∈ cs
        · rw [if_pos hm] at a
          obtain ⟨dx, gs, h1, h2⟩ := r.obj n _ hn
          have h3 := FV.look (f := m) h2
          obtain ⟨hnl, ev⟩ := (by unfold DV at q; exact q : n < M.length ∧ v = .ref (μ n))
          subst ev
          obtain rfl : u = Value.ref (μ n) := rv
          cases hlk : fs.lookup m with
          | none => rw [hlk] at a; exact a.elim
          | some d =>
            rw [hlk] at a h3
            obtain ⟨w', h4, h5⟩ := h3
            cases d with
            | gl y =>
              dsimp only at a
              by_cases hy : y = w
              · rw [if_pos hy] at a
                subst hy
                have hw : w' = .ref (He.ga X.K y) := by unfold DV at h5; exact h5
                subst hw
                refine getfldm_ok I1 h1 (hc c hm).1 (hc c hm).2 h4 fun u' s1' I1' ru => ?_
                obtain rfl : u' = Value.ref (He.ga X.K y) := ru
                have a2 := Ans.bind (rel := DVs X.K) a
                refine cw_any (P := fun h => X.K.In h) (PySem.W.keeps_K hk) (ea_gen hl rfl (thn (ha.run pos pins s1' σ H1 _ I1' ⟨μ, M, ρ, r, e, a2⟩) fun us s2 ⟨vs, H2, I2, rvs, q2⟩ => ?_))
                obtain ⟨μ2, M2, ds, l2, r2, q2, a3⟩ := q2
                exact wpAny_evalAll_nil ⟨I2.kIn, hG.run pins σ H2 s2 Q us [] vs [] μ2 M2 ds [] I2 rvs .nil r2 q2 DVs.nil a3⟩
              · rw [if_neg hy] at a; exact a.elim
            | _ => exact a.elim
        · rw [if_neg hm] at a; exact a.elim
      | lst _ => exact a.elim
      | dic _ => exact a.elim
  | _ => exact a.elim
/-! ### o.f += e, ints -/
def sFldAugI (cs : List Str) (f : Str) (a v : FE) : FStm := fun ρ M => SR.of (a ρ M) ρ fun x M1 => match getFld cs f M1 x with
  | some (.int i) => SR.of (v ρ M1) ρ fun y M2 => (match y with
    | .int j => (match getFld cs f M2 x, setFld cs f M2 x (.int (i + j)) with
      | some _, some M3 => .go .nx ρ M3
      | _, _ => .no)
    | _ => .no)
  | _ => .no
theorem ins_same {K : PySem.W.Frag} {μ : Nat → Addr} {M : Mem} {H : Hp} {cs : List Str} {f : Str} {x : D} {v : V} {d : D} (hc : Flds K cs f) (r : Rel K μ M H) (q : DV K μ M.length H x v) (h : getFld cs f M x = some d) :
    ∃ n c dx gs w, x = .ref n ∧ v = .ref (μ n) ∧ c ∈ cs ∧ H (μ n) = some (.ins (He.ga K c) dx gs) ∧ gs.lookup f = some w ∧ DV K μ M.length H d w := by
  unfold getFld at h
  cases x with
  | ref n =>
    dsimp only at h
    cases ho : M[n]? with
    | none => rw [ho] at h; cases h
    | some o =>
      rw [ho] at h
      cases o with
      | ins c fs =>
        dsimp only at h
        by_cases hm : c ∈ cs
        · rw [if_pos hm] at h
          obtain ⟨dx, gs, h1, h2⟩ := r.obj n _ ho
          have h3 := FV.look (f := f) h2
          rw [h] at h3
          obtain ⟨w, h4, h5⟩ := h3
          exact ⟨n, c, dx, gs, w, rfl, (by unfold DV at q; exact q.2), hm, h1, h4, h5⟩
        · rw [if_neg hm] at h; cases h
      | lst _ => cases h
      | dic _ => cases h
  | _ => cases h
theorem ms_fldaugI {c0 : Str} {f : Str} {fv : FE} {value : Expr} {tpos : Pos} (hc : Flds X.K [c0] f) (ha : ME X W o fo) (hv : ME X W value fv) : MS X W (.AugAssign (.Attribute o f tpos) .Add value pos) (sFldAugI [c0] f fo fv) := by
  refine PS.weak (ps_fldaug (rd := rAdd) ha hv in_add) fun D σ H h => ?_
  refine tM.mono (fun xv H1 ⟨μ, M, ρ, d, r, e, q, a1⟩ => ?_) (tSt.expr (rel := DV X.K) h)
  split at a1
  · rename_i i hi
    obtain ⟨n, c, dx, gs, w, ed, ev, hm, h1, h2, h3⟩ := ins_same hc r q hi
    rw [int_dv h3] at h2
    refine ⟨_, _, dx, gs, _, ev, h1, (hc c hm).1, (hc c hm).2, h2, ?_⟩
    have a2 : tM X.K (DV X.K) W fv σ H1 (fun yv H2 => ∃ μ2 M2 ρ2 y, Rel X.K μ2 M2 H2 ∧ EV X.K μ2 M2.length H2 ρ2 σ ∧ DV X.K μ2 M2.length H2 y yv ∧ DV X.K μ2 M2.length H2 d xv ∧ AnsS X.K W μ2 M2.length H2 (match y with
        | .int j => (match getFld [c0] f M2 d, setFld [c0] f M2 d (.int (i + j)) with
          | some _, some M3 => .go .nx ρ2 M3
          | _, _ => .no)
        | _ => .no) D) := by
      refine ⟨μ, M, ρ, r, e, ?_⟩
      cases hf : fv ρ M with
      | ok y M2 =>
        rw [hf] at a1
        exact fun μ' H' v' l r' q' => ⟨μ', M2, ρ, y, r', e.lift l, q', q.lift l, AnsS.rebase l a1⟩
      | ex ee M2 =>
        rw [hf] at a1
        exact fun μ' H' c dd l r' xv => a1 μ' H' σ c dd l r' (e.lift l) xv
      | no => rw [hf] at a1; exact a1.elim
    refine tM.mono (fun yv H2 ⟨μ2, M2, ρ2, y, r2, e2, qy, qx, a3⟩ => ?_) a2
    split at a3
    · rename_i j
      split at a3
      · rename_i d0 M3 hg hM
        obtain ⟨n', c', dx', gs', w', ed', ev', hm', h1', h2', h3'⟩ := ins_same hc r2 qx hg
        obtain ⟨a, C, dx2, gs2, ev2, k1, k2, k3, k4, k5, k6⟩ := setFld_ok hc r2 qx (dv_int (i := i + j)) hM
        have ea : a = μ2 n' := V.ref.inj (ev2.symm.trans ev')
        subst ea
        rw [h1'] at k1
        cases k1
        have en : μ n = μ2 n' := V.ref.inj (ev.symm.trans ev')
        have e1 : c = c0 := by simpa using hm
        have e2' : c' = c0 := by simpa using hm'
        subst e1
        subst e2'
        refine ⟨i, j, rfl, int_dv qy, dx', gs', by rw [en]; exact h1', k4, ?_⟩
        rw [en]
        exact a3 μ2 _ σ k6 k5 (e2.lift k6)
      · exact a3.elim
    · exact a3.elim
  · exact a1.elim
/-! ### o[i] of an instance with its own __getitem__ -/
structure GetOk (X : Cx) (c : Str) (fm : FL) : Prop where
  ex : ∃ (g : Addr) (fd : FuncData) (ps : List Str) (k : Nat), PySem.W.findIn X.K (.ref (He.ga X.K c)) "__getitem__" = some (some (.ref g)) ∧ PySem.W.isFn X.K (.ref g) = true ∧ PySem.W.fnIn X.K g = true ∧ FnM X.prog X.w X.K X.mg X.base k g fd ps fm ∧ AB X.prog X.w X.K X.mg X.base fd ps 2 [] (fun ds _ => ds) ∧ Room (k + 1) X.A
def GTs_ (X : Cx) (tb : PTb) : Prop := ∀ c G, tb.lookup c = some G → GetOk X c G
theorem gtb_nil : GTs_ X [] := fun c G h => by cases h
theorem gtb_cons {c : Str} {G : FL} {tb : PTb} (h1 : GetOk X c G) (t : GTs_ X tb) : GTs_ X ((c, G) :: tb) := fun b G' h => by
  rw [List.lookup_cons] at h
  split at h
  · rename_i hb
    cases h
    rw [eq_of_beq hb]; exact h1
  · exact t b G' h
def gIxO (tb : PTb) : F2 := fun x y M => match insOf M x with
  | some (n, c, _) => (match tb.lookup c with
    | some G => noEx (G [.ref n, y] M)
    | none => .no)
  | none => .no
theorem me_ixO {tb : PTb} {a b : Expr} {fa fb : FE} (ht : GTs_ X tb) (hgd : X.A.guards = some []) (ha : ME X W a fa) (hb : ME X W b fb) (hs : ∀ v u, subscripted b true v u = runValue (.builtin "lifetime.subscript" ⟨[v, u], []⟩)) : ME X W (.Subscript a b pos) (e2 (gIxO tb) fa fb) := by
  refine ⟨fun pins s σ H Q I h => ?_⟩
  refine Subscript_ ?_
  refine binT ha hb (R := fun x y H2 => ∃ μ M d d', Rel X.K μ M H2 ∧ DV X.K μ M.length H2 d x ∧ DV X.K μ M.length H2 d' y ∧ Ans X.K (DV X.K) (fun c d H' => W c d σ H') μ M.length H2 (gIxO tb d d' M) Q) I ?_ fun v u s2 x y H2 I2 rx ry ⟨μ, M, d, d', r, qa, qb, an⟩ => ?_
  · refine tM.mono (fun v H1 ⟨μ, M, ρ, d, r, e, q, a1⟩ => ?_) (tM.seq (rel := DV X.K) h)
    have a2 := Ans.bind (rel := DV X.K) a1
    exact ⟨μ, M, ρ, r, e, a2.mono (fun u H2 ⟨μ1, M1, d1, l, r1, q1, a3⟩ => ⟨μ1, M1, d, d1, r1, q.lift l, q1, a3⟩) fun _ _ _ z => z⟩
  · unfold gIxO at an
    split at an
    · rename_i n c fs hi
      obtain ⟨ed, ev, dx, gs, h1, h2⟩ := insOf_ok r qa hi
      subst ed ev
      obtain rfl : v = Value.ref (μ n) := rx
      split at an
      · rename_i G hG
        obtain ⟨ga, fd, ps, k, c1, c2, c3, F, hbb, hr⟩ := (ht c G hG).ex
        obtain ⟨mA, O, _, _, _, _⟩ := ins_get I2.hok h1
        obtain ⟨od, J, _⟩ := O.look
        obtain ⟨m, hF⟩ := I2.fr
        refine PySem.W.sub_K hF I2.ok.mod.kin J c1 c3 c2 ?_ (hs _ _)
        exact run_at (A' := X.A.in1) (us := [Value.ref (μ n), u]) (ws := []) (vs := [V.ref (μ n), y]) (zs := []) (ks := []) (ds := [.ref n, d']) (es := []) (E' := X.xe) F hbb hr.in1 hgd I2.env0.in1 I2 (.cons rfl (.cons ry .nil)) .nil r (DVs.cons qa (DVs.cons qb DVs.nil)) DVs.nil rfl rfl (by
          have e : ∀ {W2 : W0}, Ans X.K (DV X.K) W2 μ M.length H2 (noEx (G [.ref n, d'] M)) Q := fun {W2} => by
            cases hg : G [.ref n, d'] M with
            | ok d M2 => rw [hg] at an; exact an
            | ex ee M2 => rw [hg] at an; exact an.elim
            | no => rw [hg] at an; exact an.elim
          exact e)
      · exact an.elim
    · exact an.elim
end
end Br
end
section
namespace Br
open PySem PySem.Spec PyProof.Rows L2
section
variable {X : Cx} {W : WX} {e o : Expr} {fo : FE} {g : FA} {apos cpos : Pos} {id : String} {name : Str} {r : V → List V → Hp → VK → Prop}
/-! ### methods of texts with one argument -/
def eSM (f : Str → List D → Mem → R D) (fo : FE) (g : FA) : FE := fun ρ M => (fo ρ M).bind fun x M1 => match x with
  | .str z => (g ρ M1).bind fun ds M2 => f z ds M2
  | _ => .no
/-- what a text's method gives -/
def SmOk (X : Cx) (r : V → List V → Hp → VK → Prop) (f : Str → List D → Mem → R D) : Prop := ∀ (W1 : W0) (μ : Nat → Addr) (M : Mem) (H : Hp) (z : Str) (ds : List D) (vs : List V) (Q : VK), Rel X.K μ M H → DVs X.K μ M.length H ds vs → Ans X.K (DV X.K) W1 μ M.length H (f z ds M) Q → r (.str z) vs H Q
theorem me_sm {f : Str → List D → Mem → R D} (slot : Slot "str" name id) (hty : typeOf (.builtin id) = pure (.type "method_descriptor")) (hm : MtR X id r) (link : SmOk X r f) (ho : ME X W o fo) (ha : MA X W [e] g)
    (hbase : attributeBase o name X.env (eval o X.env) = eval o X.env := by rfl)
    (hfew : ((backTo cpos (starEach [e] X.env)).all (fun x => !x.1) && (backToKw cpos (keywordEach [] X.env)).all (fun x => x.1.isSome) && decide (([e] : List Expr).length + ([] : List Keyword).length + (if ([] : List Keyword).isEmpty then 0 else 1) < 30)) = true := by rfl)
    (hline : (apos.endLine == cpos.line) = true := by rfl) (hs : starEach [e] X.env = (false, eval e X.env) :: starEach [] X.env := by rfl) (hplain : (backTo cpos (starEach [] X.env)).any (·.1) = false := by rfl) :
    ME X W (.Call (.Attribute o name apos) [e] [] cpos) (eSM f fo g) := by
  refine ⟨fun pins s σ H Q I h => ?_⟩
  refine (pe_bm PySem.F.plainAttrs_str slot hty hm ho ha hbase hfew hline hs hplain).run pins s σ H Q I ?_
  refine tM.mono (fun v H1 ⟨μ, M, ρ, d, r, e, q, a1⟩ => ?_) (tM.seq (rel := DV X.K) h)
  split at a1
  · rename_i z
    rw [str_dv q]
    refine ⟨rfl, ?_⟩
    have a2 := Ans.bind (rel := DVs X.K) a1
    exact ⟨μ, M, ρ, r, e, a2.mono (fun us H2 ⟨μ1, M1, ds, l, r1, q1, a3⟩ => link _ _ _ _ _ _ _ _ r1 q1 a3) fun _ _ _ z => z⟩
  · exact a1.elim
theorem me_smV {f : Str → List D → Mem → R D} (slot : Slot "str" name id) (hty : typeOf (.builtin id) = pure (.type "method_descriptor")) (hm : MtR X id r) (link : SmOk X (fun x xs H Q => r x xs H fun y H1 => ∃ a ys, y = .ref a ∧ H1 a = some (.lst ys) ∧ ∀ o, Q y (upd H1 a (.frz o (.lst ys)))) f) (ho : ME X W o fo) (ha : MA X W [e] g)
    (hbase : attributeBase o name X.env (eval o X.env) = eval o X.env := by rfl)
    (hfew : ((backTo cpos (starEach [e] X.env)).all (fun x => !x.1) && (backToKw cpos (keywordEach [] X.env)).all (fun x => x.1.isSome) && decide (([e] : List Expr).length + ([] : List Keyword).length + (if ([] : List Keyword).isEmpty then 0 else 1) < 30)) = true := by rfl)
    (hline : (apos.endLine == cpos.line) = true := by rfl) (hs : starEach [e] X.env = (false, eval e X.env) :: starEach [] X.env := by rfl) (hplain : (backTo cpos (starEach [] X.env)).any (·.1) = false := by rfl) :
    ME X W (.Call (.Attribute o name apos) [e] [] cpos) (eSM f fo g) := by
  refine PE.weak (PE.lock (pe_bm PySem.F.plainAttrs_str slot hty hm ho ha hbase hfew hline hs hplain)) fun σ H Q h => ?_
  refine tM.mono (fun v H1 ⟨μ, M, ρ, d, r, e, q, a1⟩ => ?_) (tM.seq (rel := DV X.K) h)
  split at a1
  · rename_i z
    rw [str_dv q]
    refine ⟨rfl, ?_⟩
    have a2 := Ans.bind (rel := DVs X.K) a1
    exact ⟨μ, M, ρ, r, e, a2.mono (fun us H2 ⟨μ1, M1, ds, l, r1, q1, a3⟩ => link _ _ _ _ _ _ _ _ r1 q1 a3) fun _ _ _ z => z⟩
  · exact a1.elim
/-! ### join -/
def strsD : List D → Option (List Str)
  | [] => some []
  | .str z :: r => (strsD r).map (z :: ·)
  | _ => none
theorem strsD_dv {K : PySem.W.Frag} {μ : Nat → Addr} {N : Nat} {H : Hp} : ∀ {ds : List D} {vs : List V} {zs : List Str}, strsD ds = some zs → DVs K μ N H ds vs → vs = zs.map V.str
  | [], vs, zs, h, q => by cases h; exact q.inv_nil
  | d :: ds, vs, zs, h, q => by
    obtain ⟨v, rr, rfl, q1, q2⟩ := q.inv_cons
    cases d with
    | str z =>
      unfold strsD at h
      cases hr : strsD ds with
      | none => rw [hr] at h; cases h
      | some js =>
        rw [hr] at h
        cases h
        rw [str_dv q1, strsD_dv hr q2]; rfl
    | _ => cases h
theorem dv_strs {K : PySem.W.Frag} {μ : Nat → Addr} {N : Nat} {H : Hp} : ∀ zs : List Str, DVs K μ N H (zs.map D.str) (zs.map V.str)
  | [] => DVs.nil
  | z :: zs => DVs.cons (by unfold DV; rfl) (dv_strs zs)
def gJoin : Str → List D → Mem → R D := fun z ds M => match ds with
  | [d] => (match seqA M d with
    | some xs => (match strsD xs with
      | some ys => if (ys.map (·.length)).sum + ys.length * z.length ≤ 16777216 then .ok (.str (Txt.join z ys)) M else .no
      | none => .no)
    | none => .no)
  | _ => .no
theorem sm_join : SmOk X (fun x xs H Q => ∃ a p, ∃ ys : List Str, x = .str a ∧ xs = [.ref p] ∧ (SqL X.K H p (ys.map V.str) ∨ SqT X.K H p (ys.map V.str)) ∧ (ys.map (·.length)).sum + ys.length * a.length ≤ 16777216 ∧ Q (.str (Txt.join a ys)) H) gJoin := by
  intro W1 μ M H z ds vs Q r q a
  unfold gJoin at a
  split at a
  · rename_i d
    obtain ⟨v, rr, rfl, q1, q2⟩ := q.inv_cons
    rw [q2.inv_nil]
    split at a
    · rename_i xs hx
      obtain ⟨p, us, rfl, sq, dq⟩ := seqA_ok r q1 hx
      split at a
      · rename_i ys hy
        split at a
        · rename_i hz
          have := strsD_dv hy dq
          subst this
          exact ⟨z, p, ys, rfl, rfl, sq, hz, a μ H _ (Lift.refl ..) r (by unfold DV; rfl)⟩
        · exact a.elim
      · exact a.elim
    · exact a.elim
  · exact a.elim
/-! ### split, by value -/
def gSplit : Str → List D → Mem → R D := fun z ds M => match ds with
  | [.str b] => if (b.length == 0) = false ∧ z.length + 2 ≤ sizeLine then .ok (.lst ((Txt.split z b).map D.str)) M else .no
  | _ => .no
theorem sm_split : SmOk X (fun x xs H Q => (fun x xs H Q => ∃ a b, x = .str a ∧ xs = [.str b] ∧ (b.length == 0) = false ∧ a.length + 2 ≤ sizeLine ∧ rNewStrs (Txt.split a b) H Q) x xs H fun y H1 => ∃ a ys, y = .ref a ∧ H1 a = some (.lst ys) ∧ ∀ o, Q y (upd H1 a (.frz o (.lst ys)))) gSplit := by
  intro W1 μ M H z ds vs Q r q a
  unfold gSplit at a
  split at a
  · rename_i b
    obtain ⟨v, rr, rfl, q1, q2⟩ := q.inv_cons
    rw [q2.inv_nil, str_dv q1]
    split at a
    · rename_i hz
      exact ⟨z, b, rfl, rfl, hz.1, hz.2, fun p hp => ⟨p, _, rfl, upd_same, fun o => ans_lst r (dv_strs _) a p hp o⟩⟩
    · exact a.elim
  · exact a.elim
/-! ### partition, removeprefix -/
def gParti : Str → List D → Mem → R D := fun z ds M => match ds with
  | [.str b] => if (b.length == 0) = false ∧ z.length ≤ sizeLine then .ok (.tup [.str (Txt.partition z b).1, .str (Txt.partition z b).2.1, .str (Txt.partition z b).2.2]) M else .no
  | _ => .no
theorem sm_part : SmOk X (fun x xs H Q => ∃ a b, x = .str a ∧ xs = [.str b] ∧ (b.length == 0) = false ∧ a.length ≤ sizeLine ∧ ∀ p, H p = none → Q (.ref p) (upd H p (.tup [.str (Txt.partition a b).1, .str (Txt.partition a b).2.1, .str (Txt.partition a b).2.2]))) gParti := by
  intro W1 μ M H z ds vs Q r q a
  unfold gParti at a
  split at a
  · rename_i b
    obtain ⟨v, rr, rfl, q1, q2⟩ := q.inv_cons
    rw [q2.inv_nil, str_dv q1]
    split at a
    · rename_i hz
      exact ⟨z, b, rfl, rfl, hz.1, hz.2, fun p hp => ans_tup r (DVs.cons (by unfold DV; rfl) (DVs.cons (by unfold DV; rfl) (DVs.cons (by unfold DV; rfl) DVs.nil))) a p hp⟩
    · exact a.elim
  · exact a.elim
def gRmp : Str → List D → Mem → R D := fun z ds M => match ds with
  | [.str b] => if z.length ≤ sizeLine then .ok (.str (Txt.removeprefix z b)) M else .no
  | _ => .no
theorem sm_rmp : SmOk X (fun x xs H Q => ∃ a b, x = .str a ∧ xs = [.str b] ∧ a.length ≤ sizeLine ∧ Q (.str (Txt.removeprefix a b)) H) gRmp := by
  intro W1 μ M H z ds vs Q r q a
  unfold gRmp at a
  split at a
  · rename_i b
    obtain ⟨v, rr, rfl, q1, q2⟩ := q.inv_cons
    rw [q2.inv_nil, str_dv q1]
    split at a
    · rename_i hz
      exact ⟨z, b, rfl, rfl, hz, a μ H _ (Lift.refl ..) r (by unfold DV; rfl)⟩
    · exact a.elim
  · exact a.elim
/-! ### int(text) -/
def gIntS : FL := fun ds M => match ds with
  | [.str z] => (match PySem.intText? z with
    | some n => if z.length ≤ 640 then .ok (.int n) M else .no
    | none => .no)
  | _ => gInt ds M
theorem cm_intS : CallM X (.type "int") gIntS := by
  intro W pins s σ H xs us Q I rx ⟨μ, M, as, r, qa, a⟩
  unfold gIntS at a
  split at a
  · rename_i z
    obtain ⟨v, rr, ev, q1, q2⟩ := qa.inv_cons
    rw [q2.inv_nil, str_dv q1] at ev
    subst ev
    obtain ⟨u, rfl, t, rfl⟩ := vals1 rx
    split at a
    · rename_i n hn
      split at a
      · rename_i hz
        exact PySem.W.KIN.call_text hn hz ⟨.int n, H, I.tok _, ⟨_, rfl⟩, a μ H _ (Lift.refl ..) r (by unfold DV; rfl)⟩
      · exact a.elim
    · exact a.elim
  · exact cm_int W pins s σ H xs us Q I rx ⟨μ, M, _, r, qa, a⟩
end
end Br
end
section
namespace Br
open PySem PySem.Spec PyProof.Rows L2
section
variable {X : Cx} {W : WX} {tg e : Expr} {f : FE}
/-- the signs of a text, as texts -/
def charsD (z : Str) : List D := z.cps.toList.map fun c => D.str ⟨#[c]⟩
theorem wk_str {K : PySem.W.Frag} {μ : Nat → Addr} {N : Nat} {H : Hp} (z : Str) : WkR K μ N H (.items (charsD z)) (Its z) := by
  intro μ' N' H' l
  refine ⟨by show z.cps.size ≤ (charsD z).length; simp [charsD], fun i d hd => ?_⟩
  have hi : i < z.cps.size := by
    have := (List.getElem?_eq_some_iff.mp hd).1
    simpa [charsD] using this
  refine ⟨hi, fun M x H2 r em y => ?_⟩
  obtain ⟨e1, c, hc, ex⟩ := y
  subst e1
  have e2 : d = .str ⟨#[c]⟩ := by
    unfold charsD at hd
    rw [List.getElem?_map, Array.getElem?_toList, hc] at hd
    exact (Option.some.inj hd).symm
  subst e2
  exact ⟨r, Lift.refl .., by unfold DV; exact ex⟩
def wIs (f : FE) : En → Mem → R Wk := fun ρ M => (f ρ M).bind fun d M1 => match d with
  | .str z => .ok (.items (charsD z)) M1
  | _ => .no
theorem mi_str (he : ME X W e f) : MI X W tg e (wIs f) := by
  refine PI.weak (pi_str he) fun σ H R h => ?_
  refine tM.mono (fun v H1 ⟨μ, M, ρ, d, r, e, q, a1⟩ => ?_) (tM.seq (rel := DV X.K) h)
  split at a1
  · rename_i z
    exact ⟨z, str_dv q, a1 μ H1 _ (Lift.refl ..) r (wk_str z)⟩
  · exact a1.elim
end
end Br
end
section
namespace Br
open PySem PySem.Spec PyProof.Rows L2
section
variable {X : Cx}
/-! ### a truth value is True, is not False -/
def gIsB (neg : Bool) : F2 := fun x y M => match x, y with
  | .bl a, .bl b => .ok (.bl (neg != decide (a = b))) M
  | _, _ => .no
theorem om_isB : OpM X (compareOp .Is) (gIsB false) := by
  intro W pins s σ H x y v u Q I rx ry ⟨μ, M, a, b, r, qa, qb, an⟩
  unfold gIsB at an
  split at an
  · rename_i p q
    have hx := bl_dv qa
    have hy := bl_dv qb
    subst hx hy
    refine op_isBl pins s σ H _ _ v u Q I rx ry ⟨p, q, rfl, rfl, ?_⟩
    have e : (false != decide (p = q)) = decide (p = q) := by cases decide (p = q) <;> rfl
    rw [e] at an
    exact ans_pure r dv_bl an
  · exact an.elim
theorem om_notB : OpM X (compareOp .IsNot) (gIsB true) := by
  intro W pins s σ H x y v u Q I rx ry ⟨μ, M, a, b, r, qa, qb, an⟩
  unfold gIsB at an
  split at an
  · rename_i p q
    have hx := bl_dv qa
    have hy := bl_dv qb
    subst hx hy
    refine op_notBl pins s σ H _ _ v u Q I rx ry ⟨p, q, rfl, rfl, ?_⟩
    have e : (true != decide (p = q)) = !decide (p = q) := by cases decide (p = q) <;> rfl
    rw [e] at an
    exact ans_pure r dv_bl an
  · exact an.elim
/-! ### o.clear() -/
def gClrL : D → Mem → R D := fun x M => match x with
  | .ref n => (match M[n]? with
    | some (.lst xs) => .ok .non (M.set n (.lst []))
    | _ => .no)
  | _ => .no
def eClrL (fo : FE) : FE := fun ρ M => (fo ρ M).bind fun x M1 => gClrL x M1
theorem me_clrL {W : WX} {o : Expr} {fo : FE} {apos cpos : Pos} (ho : ME X W o fo) (hbase : attributeBase o "clear" X.env (eval o X.env) = eval o X.env := by rfl) (hline : (apos.endLine == cpos.line) = true := by rfl) :
    ME X W (.Call (.Attribute o "clear" apos) [] [] cpos) (eClrL fo) := by
  refine ⟨fun pins s σ H Q I h => ?_⟩
  refine (pe_bm0 PySem.F.plainAttrs_list PySem.F.slot_list_clear PySem.F.type_list_clear mt_clear ho hbase hline).run pins s σ H Q I ?_
  refine tM.mono (fun v H1 ⟨μ, M, ρ, d, r, e, q, a1⟩ => ?_) (tM.seq (rel := DV X.K) h)
  unfold gClrL at a1
  split at a1
  · rename_i n
    split at a1
    · rename_i xs hx
      obtain ⟨hn, ev⟩ := ref_dv q
      subst ev
      obtain ⟨ys, hy, dy⟩ := r.obj n _ hx
      refine ⟨.inl ⟨rfl, ys, SqL.of hy⟩, μ n, ys, rfl, rfl, hy, ?_⟩
      have p := put_lst r hx hy DVs.nil
      exact a1 μ _ _ p.2 p.1 (by unfold DV; rfl)
    · exact a1.elim
  · exact a1.elim
/-! ### d.get(k, z) -/
def eDGet2 (fo fi fx : FE) : FE := fun ρ M => (fo ρ M).bind fun x M1 => match x with
  | .ref n => (match M1[n]? with
    | some (.dic _) => (fi ρ M1).bind fun y M2 => (fx ρ M2).bind fun z M3 => (match keyD y, M3[n]? with
      | some k, some (.dic kvs) => .ok ((valD kvs k).getD z) M3
      | _, _ => .no)
    | _ => .no)
  | _ => .no
theorem me_dget2 {W : WX} {o i z : Expr} {fo fi fx : FE} {apos cpos : Pos} (hu : X.A.units + 1 < cLine) (ho : ME X W o fo) (hi : ME X W i fi) (hx : ME X W z fx) (m : M2 X o "get" apos i z cpos) : ME X W (.Call (.Attribute o "get" apos) [i, z] [] cpos) (eDGet2 fo fi fx) := by
  refine PE.weak (pe_dget2 hu ho hi hx m) fun σ H Q h => ?_
  refine tM.mono (fun v H1 ⟨μ, M, ρ, d, r, e, q, a1⟩ => ?_) (tM.seq (rel := DV X.K) h)
  split at a1
  · rename_i n
    split at a1
    · rename_i kv0 hn0
      obtain ⟨hl, ev⟩ := ref_dv q
      obtain ⟨p0, hp0, hkv0⟩ := r.obj n _ hn0
      have a2 := Ans.bind (rel := DV X.K) a1
      refine ⟨μ n, ev, .inl ⟨p0, .inl hp0⟩, μ, M, ρ, r, e, a2.mono (fun u H2 ⟨μ1, M1, d1, l, r1, q1, a3⟩ => ?_) fun _ _ _ z => z⟩
      have a4 := Ans.bind (rel := DV X.K) a3
      refine ⟨μ1, M1, ρ, r1, e.lift l, a4.mono (fun u3 H3 ⟨μ2, M2, d2, l2, r2, q2, a5⟩ => ?_) fun _ _ _ z => z⟩
      split at a5
      · rename_i k kvs hk hn
        obtain ⟨hl', ev'⟩ := ref_dv (q.lift (l.trans l2))
        obtain ⟨ps, hp, hkv⟩ := r2.obj n _ hn
        have em : μ2 n = μ n := (l.trans l2).same n hl
        rw [em] at hp
        have g := DGet.k (k := k) hp
        rw [← key_dv hk (q1.lift l2)] at g
        refine ⟨_, g, ?_⟩
        rcases hkv.find k with ⟨h1, h2⟩ | ⟨d3, w, h1, h2, h3⟩
        · rw [h2]; rw [h1] at a5; exact ans_pure r2 q2 a5
        · rw [h2]; rw [h1] at a5; exact ans_pure r2 h3 a5
      · exact a5.elim
    · exact a1.elim
  · exact a1.elim
/-! ### sum(ints) -/
def gSum : FL := fun ds M => match ds with
  | [d] => (match (seqL M d).bind intsOf with
    | some ns => .ok (.int ns.sum) M
    | none => .no)
  | _ => .no
theorem sum_ok {K : PySem.W.Frag} {μ : Nat → Addr} {M : Mem} {H : Hp} {d : D} {v : V} {ns : List Int} (r : Rel K μ M H) (q : DV K μ M.length H d v) (h : (seqL M d).bind intsOf = some ns) : ∃ a, v = .ref a ∧ SqL K H a (ns.map V.int) := by
  cases e : seqL M d with
  | none => rw [e] at h; cases h
  | some ds =>
    rw [e] at h
    obtain ⟨a, xs, ev, s, dq⟩ := seqL_ok r q e
    have e2 := intsOf_ok (show intsOf ds = some ns from h)
    subst e2
    exact ⟨a, ev, by rw [← dq.ints]; exact s⟩
theorem cm_sum (hc : X.calm = true) : CallM X (.builtin "sum") gSum := by
  intro W pins s σ H xs us Q I rv ⟨μ, M, as, r, q, an⟩
  unfold gSum at an
  split at an
  · split at an
    · rename_i bs hb
      obtain ⟨v, r', e, q1, q2⟩ := q.inv_cons
      obtain ⟨a, ev, sq⟩ := sum_ok r q1 hb
      rw [e, q2.inv_nil, ev] at rv
      exact cr_sum hc pins s σ H _ us Q I rv ⟨a, bs, rfl, sq, ans_pure r dv_int an⟩
    · exact an.elim
  · exact an.elim
/-! ### NAME.get(k), NAME a dict of the module whose values are strings -/
def eKGet1 (name : Str) (kvs : List (Str × Str)) (a : FE) : FE := fun ρ M => (a ρ M).bind fun k M1 => match k with
  | .str z => .ok (match kvs.lookup z with | some v => .str v | none => .non) M1
  | _ => .no
theorem me_kget1 {W : WX} {name : Str} {kvs : List (Str × Str)} {e : Expr} {fe : FE} {apos cpos p0 : Pos} (T : KS X.K X.w name kvs) (hg : Gl X name) (hm : X.mg name = some (.ref (He.ga X.K name))) (he : ME X W e fe) (m : M1 X (.Name name p0) "get" apos e cpos) (hdb : (name == ("__debug__" : Str)) = false := by decide) :
    ME X W (.Call (.Attribute (.Name name p0) "get" apos) [e] [] cpos) (eKGet1 name kvs fe) := by
  refine ⟨fun pins s σ H Q I h => ?_⟩
  obtain ⟨es, n, kd⟩ := T.kd
  have h2 := tM.seq (rel := DV X.K) h
  refine wpAny_Call_method m.base m.few m.line PySem.F.plainAttrs_dict PySem.F.slot_dict_get PySem.F.type_dict_get (thn ((me_gl (W := W) hg hm hdb).run pins s σ H (fun v H1 => v = .ref (He.ga X.K name) ∧ tM X.K (DV X.K) W fe σ H1 (fun v H2 => ∃ μ M ρ d, Rel X.K μ M H2 ∧ EV X.K μ M.length H2 ρ σ ∧ DV X.K μ M.length H2 d v ∧ Ans X.K (DV X.K) (fun c d H' => W c d σ H') μ M.length H2 (match d with
      | .str z => .ok (match kvs.lookup z with | some v => D.str v | none => D.non) M
      | _ => .no) Q)) I ?_) fun u s1 ⟨v, H1, I1, rv, ev, h3⟩ => ?_)
  · obtain ⟨μ, M, ρ, r, e, a⟩ := h2
    exact ⟨μ, M, ρ, r, e, fun μ' H' v l r' q => ⟨gl_dv q, μ', M, ρ, r', e.lift l, Ans.rebase l a⟩⟩
  · subst ev
    obtain rfl : u = Value.ref (He.ga X.K name) := rv
    have hmp := PySem.W.mapOf_K (prog := X.prog) (w := X.w) I1.kIn kd.at_ kd.lit
    refine ⟨hmp.typeIs, fun b q => ?_, ?_⟩
    · cases q
      exact ⟨_, I1.kIn _ _ kd.at_, rfl⟩
    rw [m.trees]
    refine Calls.callWith_builtin rfl (Calls.evalArgs_plain (Calls.spliced_cons (thn (he.run pins s1 σ H1 _ I1 h3) fun iv s2 ⟨y, H2, I2, ry, μ, M, ρ, d, r, ev, q, a⟩ => Calls.spliced_nil ?_)))
    cases d with
    | str k =>
      have hy := str_dv q
      subst hy
      obtain ⟨t, rfl⟩ := ry
      have hmp3 := PySem.W.mapOf_K (prog := X.prog) (w := X.w) I2.kIn kd.at_ kd.lit
      refine call_meetsIn PySem.F.slot_dict_get hmp3.typeIs PySem.F.entry_dict_get (PySem.F.args_dict_get_2 _ _) (meets_dict_get (strKind X.prog X.w) (He.ga X.K name) (strKind_is X.prog X.w k t) kd.low) ⟨_, hmp3, ?_⟩
      have hk := T.get k
      dsimp only at a
      cases hl : kvs.lookup k with
      | none =>
        rw [hl] at hk a
        rw [PySem.W.find_K kd.at_ hk]
        exact ⟨.non, H2, I2.tok _, rfl, a μ H2 _ (Lift.refl ..) r dv_non⟩
      | some dd =>
        rw [hl] at hk a
        obtain ⟨u, h5, h6⟩ := hk
        rw [PySem.W.find_K kd.at_ h5]
        exact ⟨.str dd, H2, I2.tok _, h6, a μ H2 _ (Lift.refl ..) r dv_str⟩
    | _ => exact a.elim
end
end Br
end
section
namespace Br
open PySem PySem.Spec PyProof.Rows L2
section
variable {X : Cx}
/-! ### x in o, x not in o of an instance with its own __contains__ -/
def gInO (tb : PTb) (neg : Bool) (g : F2) : F2 := fun x y M => match insOf M y with
  | some (n, c, _) => (match tb.lookup c with
    | some G => blR (G [.ref n, x] M) (!neg)
    | none => .no)
  | none => g x y M
theorem om_inO {tb : PTb} (ht : STs_ X "__contains__" 2 tb) (hgd : X.A.guards = some []) (hu : X.A.units + 65 < cLine) : OpM X (compareOp .In) (gInO tb false (gIn false)) := by
  intro W pins s σ H x y v u Q I rx ry ⟨μ, M, a, b, r, qa, qb, an⟩
  unfold gInO at an
  split at an
  · rename_i n c fs hi
    obtain ⟨eb, evb, dx, gs, h1, h2⟩ := insOf_ok r qb hi
    subst eb evb
    obtain rfl : u = Value.ref (μ n) := ry
    split at an
    · rename_i G hG
      obtain ⟨ga, fd, ps, k, c1, c2, F, hb, hr⟩ := (ht c G hG).ex
      obtain ⟨mA, O, _, _, _, _⟩ := ins_get I.hok h1
      obtain ⟨od, J, _⟩ := O.look
      obtain ⟨m, hF⟩ := I.fr
      refine PySem.W.in_K hF I.ok.mod.kin J c1 (beq_iff_eq.mpr c2) ?_
      have z := run_at (A' := X.A) (us := [Value.ref (μ n), v]) (ws := []) (vs := [V.ref (μ n), x]) (zs := []) (ks := []) (ds := [.ref n, a]) (es := []) (E' := X.xe) F hb (hr.mono (by omega)) hgd I.env0 I (.cons rfl (.cons rx .nil)) .nil r (DVs.cons qb (DVs.cons qa DVs.nil)) DVs.nil rfl rfl (ans_blR an)
      refine wpAny_mono z (fun v s' hv => ?_) (fun _ _ e => e)
      obtain ⟨V, H', I', rv, ⟨i, ei, q⟩⟩ := hv
      subst ei
      obtain rfl : v = Value.bool i := rv
      exact wpAny_truthy_bool ⟨V.bl i, H', I', rfl, q⟩
    · exact an.elim
  · exact om_in hu W pins s σ H x y v u Q I rx ry ⟨μ, M, a, b, r, qa, qb, an⟩
theorem om_notInO {tb : PTb} (ht : STs_ X "__contains__" 2 tb) (hgd : X.A.guards = some []) (hu : X.A.units + 65 < cLine) : OpM X (compareOp .NotIn) (gInO tb true (gIn true)) := by
  intro W pins s σ H x y v u Q I rx ry ⟨μ, M, a, b, r, qa, qb, an⟩
  unfold gInO at an
  split at an
  · rename_i n c fs hi
    obtain ⟨eb, evb, dx, gs, h1, h2⟩ := insOf_ok r qb hi
    subst eb evb
    obtain rfl : u = Value.ref (μ n) := ry
    split at an
    · rename_i G hG
      obtain ⟨ga, fd, ps, k, c1, c2, F, hb, hr⟩ := (ht c G hG).ex
      obtain ⟨mA, O, _, _, _, _⟩ := ins_get I.hok h1
      obtain ⟨od, J, _⟩ := O.look
      obtain ⟨m, hF⟩ := I.fr
      refine PySem.W.notIn_K hF I.ok.mod.kin J c1 (beq_iff_eq.mpr c2) ?_
      have z := run_at (A' := X.A) (us := [Value.ref (μ n), v]) (ws := []) (vs := [V.ref (μ n), x]) (zs := []) (ks := []) (ds := [.ref n, a]) (es := []) (E' := X.xe) F hb (hr.mono (by omega)) hgd I.env0 I (.cons rfl (.cons rx .nil)) .nil r (DVs.cons qb (DVs.cons qa DVs.nil)) DVs.nil rfl rfl (ans_blR an)
      refine wpAny_mono z (fun v s' hv => ?_) (fun _ _ e => e)
      obtain ⟨V, H', I', rv, ⟨i, ei, q⟩⟩ := hv
      subst ei
      obtain rfl : v = Value.bool i := rv
      exact wpAny_truthy_bool ⟨V.bl (!i), H', I', rfl, q⟩
    · exact an.elim
  · exact om_notIn hu W pins s σ H x y v u Q I rx ry ⟨μ, M, a, b, r, qa, qb, an⟩
/-! ### str(x) of an instance with its own __str__ -/
structure StrOk (X : Cx) (c : Str) (fm : FL) : Prop where
  ex : ∃ (g : Addr) (fd : FuncData) (ps : List Str) (k : Nat), PySem.W.findIn X.K (.ref (He.ga X.K c)) "__str__" = some (some (.ref g)) ∧ PySem.W.typeIn X.K (.ref g) = some (.type "function") ∧ FnM X.prog X.w X.K X.mg X.base k g fd ps fm ∧ AB X.prog X.w X.K X.mg X.base fd ps 1 [] (fun ds _ => ds) ∧ Room (k + 2) X.A
def StrTb (X : Cx) (tb : PTb) : Prop := ∀ c G, tb.lookup c = some G → StrOk X c G
theorem strb_nil : StrTb X [] := fun c G h => by cases h
theorem strb_cons {c : Str} {G : FL} {tb : PTb} (h1 : StrOk X c G) (t : StrTb X tb) : StrTb X ((c, G) :: tb) := fun b G' h => by
  rw [List.lookup_cons] at h
  split at h
  · rename_i hb
    cases h
    rw [eq_of_beq hb]; exact h1
  · exact t b G' h
def gStrO (tb : PTb) : FL := fun ds M => match ds with
  | [d] => (match insOf M d with
    | some (n, c, _) => (match tb.lookup c with
      | some G => strR (G [.ref n] M)
      | none => .no)
    | none => gStr [d] M)
  | _ => .no
theorem cm_strO {tb : PTb} (ht : StrTb X tb) (hgd : X.A.guards = some []) : CallM X (.type "str") (gStrO tb) := by
  intro W pins s σ H xs us Q I rx ⟨μ, M, as, r, qa, a⟩
  unfold gStrO at a
  split at a
  · rename_i d
    split at a
    · rename_i n c fs hi
      obtain ⟨v, r', ev, q1, q2⟩ := qa.inv_cons
      obtain ⟨ed, ev2, dx, gs, h1, h2⟩ := insOf_ok r q1 hi
      rw [q2.inv_nil] at ev
      subst ev ed ev2
      obtain ⟨u, rfl, ru⟩ := vals1 rx
      obtain rfl : u = Value.ref (μ n) := ru
      split at a
      · rename_i G hG
        obtain ⟨ga, fd, ps, k, c1, c2, F, hb, hr⟩ := (ht c G hG).ex
        obtain ⟨mA, O, _, _, _, _⟩ := ins_get I.hok h1
        obtain ⟨od, J, _⟩ := O.look
        obtain ⟨m, hF⟩ := I.fr
        refine PySem.W.kso_call (by have := hr.in1.in1.units0; exact this) (I.ok.mod.kin.keeps hF.keep) J c1 (beq_iff_eq.mpr c2) ?_
        have z := run_at (A' := X.A.in1.in1) (us := [Value.ref (μ n)]) (ws := []) (vs := [V.ref (μ n)]) (zs := []) (ks := []) (ds := [.ref n]) (es := []) (E' := X.xe) F hb hr.in1.in1 hgd I.env0.in1.in1 I (.cons rfl .nil) .nil r (DVs.cons q1 DVs.nil) DVs.nil rfl rfl (ans_strR a)
        refine wpAny_mono z (fun v s' hv => ?_) (fun _ _ e => e)
        obtain ⟨V, H', I', rv, ⟨w, ew⟩, q⟩ := hv
        subst ew
        obtain ⟨t, rfl⟩ := rv
        exact ⟨V.str w, H', I', ⟨t, rfl⟩, q⟩
      · exact a.elim
    · exact cm_str W pins s σ H xs us Q I rx ⟨μ, M, _, r, qa, a⟩
  · exact a.elim
end
end Br
end
section
namespace Br
open PySem PySem.Spec PyProof.Rows L2
/-! ### raise C(e), C an own class over ValueError whose __init__ keeps one field -/
/-- what such an __init__ does -/
def initSp (K : PySem.W.Frag) (f : Str) : Sp := fun vs H Q _ => ∃ (a C : Addr) (y : V), vs = [.ref a, y] ∧ OexC K C ∧ PySem.W.findIn K (.ref C) f = some none ∧ H a = some (exo a C none) ∧
  ∀ d, H d = none → d ≠ a → Q .non (upd (upd H d (exd d [(f, y)])) a (exo a C (some d)))
section
variable {P : Program} {w : World} {K : PySem.W.Frag} {mg : Str → Option Value} {base : Heap}
theorem exinit_ok {CX : CXT} {x qual f p : Str} {params : Arguments} {scope : Scope} {fa : Addr} {fd : FuncData} {k : Nat} {p1 p2 p3 p4 : Pos} (F : FunD K x qual params [.Assign [.Attribute (.Name "self" p1) f p2] (.Name p p3) p4] scope [] [] fa fd)
    (S : FnScope [("self" : Str), p] [("self" : Str), p] scope) (hs : scope.names.lookup ("self" : Str) = some .local) (hp : scope.names.lookup p = some .local) (hd : (p == ("__debug__" : Str)) = false) (hcd : (p == ("__classdict__" : Str)) = false) :
    FnOk P w K mg base CX (k + 1) fa fd [("self" : Str), p] (initSp K f) := by
  refine FunD.ok F S (fun vs H Q E ⟨a, C, y, e, _⟩ => by rw [e]; rfl) fun cdv A outer s H vs Q E hr ⟨a, C, y, ev, T, hno, ha, hq⟩ => ⟨_, pss_cons (ps_ost (pe_var (i := 0) rfl (Or.inl hs) (by decide) (by decide)) (pe_var (i := 1) rfl (Or.inl hp) hd hcd)) pss_nil, ?_⟩
  subst ev
  exact ⟨y, rfl, .ref a, rfl, a, C, rfl, T, hno, .inl ⟨ha, fun d h1 h2 => hq d h1 h2⟩⟩
end
/-- the class C: its __init__ keeps the field f -/
structure ExcOk (X : Cx) (x f : Str) : Prop where
  T : OexC X.K (He.ga X.K x)
  no : PySem.W.findIn X.K (.ref (He.ga X.K x)) f = some none
  ini : ∃ (fI : Addr) (fd : FuncData) (ps : List Str) (k : Nat), PySem.W.findIn X.K (.ref (He.ga X.K x)) "__init__" = some (some (.ref fI)) ∧ PySem.W.typeIn X.K (.ref fI) = some (.type "function") ∧
    FnOk X.prog X.w X.K X.mg X.base (fun _ _ _ _ _ _ => False) k fI fd ps (initSp X.K f) ∧ Room (k + 1) X.A ∧ Binds X.K fd ps []
section
variable {X : Cx} {e : Expr} {es : List Expr} {ta : TA} {p pos : Pos}
theorem pmkN_oex {CX : CXT} {x : Str} {C fI : Addr} {k : Nat} {fd : FuncData} {ps : List Str} {sp : Sp} (T : OexC X.K C) (iC : PySem.W.findIn X.K (.ref C) "__init__" = some (some (.ref fI))) (tI : PySem.W.typeIn X.K (.ref fI) = some (.type "function"))
    (F1 : FnOk X.prog X.w X.K X.mg X.base CX k fI fd ps sp) (hr : Room (k + 1) X.A) (hb : Binds X.K fd ps []) (hx : Passes CX X (fun _ _ _ => False)) (hg : Gl X x) (hm : X.mg x = some (.ref C)) (ha : PA X (e :: es) ta)
    (hdb : (x == ("__debug__" : Str)) = false := by decide) (he : starEach (e :: es) X.env = (false, eval e X.env) :: starEach es X.env := by rfl) (hpl : (backTo pos (starEach es X.env)).any (·.1) = false := by rfl) :
    L2N.PMk X (.Call (.Name x p) (e :: es) [] pos) (tMkO C sp [] ta) := by
  intro pins s σ H Q I h
  obtain ⟨nm, q, N, bs, bm, sn, sub, ab, col, dd, k0, k1, k2, k3, k5, hC, hbm⟩ := T.cls
  refine wpAny_Call_Name_kw (ld_glob I hg hm ?_ hdb)
  refine PySem.W.callWith_K (h₀ := X.base) I.ok.mod.kin T.kC (thn (ha.run pos pins s σ H _ I h) fun us s1 ⟨vs, H1, I1, rv, hz, q1⟩ => ⟨I1.kIn, ?_⟩) he hpl
  show wpAny _ _ (call (.ref C) us) _ _ _
  obtain ⟨hp, g, dr, tk, os⟩ := s1
  generalize ho : hp.objs.size = z at *
  have hsz : hp.objs.size ≤ z + 1 := by omega
  have hq := q1 (z + 1) (I1.hok.fresh hsz)
  rw [List.append_nil] at hq
  have kk : ∀ b o, hp.get? b = some o → ((hp.push (PySem.W.kdv_tup us)).push (PySem.HandSPX.excO C z)).get? b = some o := fun b o y => Heap.get?_push_of_some _ (Heap.get?_push_of_some _ y)
  have hget : ((hp.push (PySem.W.kdv_tup us)).push (PySem.HandSPX.excO C z)).get? (z + 1) = some (PySem.HandSPX.excO C z) := by
    rw [← ho]; heap_get
  have I2 : Inv X pins σ (upd H1 (z + 1) (exo (z + 1) C none)) ⟨(hp.push (PySem.W.kdv_tup us)).push (PySem.HandSPX.excO C z), g, dr, tk, os⟩ :=
    I1.laid (t' := tk) (a := z + 1) (o := exo (z + 1) C none) (h' := (hp.push (PySem.W.kdv_tup us)).push (PySem.HandSPX.excO C z)) kk hsz (exo_ok hget)
  have r2 : Vals (V.ref (z + 1) :: vs) (Value.ref (z + 1) :: us) := .cons rfl rv
  have hl : (Value.ref (z + 1) :: us).length = ps.length := by
    rw [← F1.len _ _ _ _ hq]; exact r2.length.symm
  have b2 := hb _ (Value.ref (z + 1) :: us) I2.kIn (by rw [List.append_nil]; exact hl)
  rw [List.append_nil] at b2
  have hus : us.length ≤ sizeLine := by
    rw [← Paired.length rv, sizeLine_eq]; omega
  subst ho
  refine wpAny_call (PySem.HandSPX.call_own F.excBase_ValueError (fun Y => PySem.HandSPX.refsVE_contains Y bm hbm) (I1.kIn _ _ hC) (PySem.W.looks_findIn I1.kIn iC) (fun self => PySem.W.bind_fn I1.kIn self tI) hus
    (codeAny_mono (F1.run _ X.stack _ _ ⟨Value.ref (hp.objs.size + 1) :: us, []⟩ (Value.ref (hp.objs.size + 1) :: us) _ _ (fun _ _ _ => False) (hr.make C us []) (I2.env0.make C us []) b2 r2 hq) fun r s' hq' => ?_))
  cases r with
  | error er => exact hx pins σ _ _ er s' I2 hq'
  | ok fl =>
    cases fl with
    | ret u =>
      obtain ⟨v, H2, os2, bare2, un2, hok2, rv2, ev, d, fs, ea, ed, hd1, q2⟩ := hq'
      subst ev
      obtain ⟨h2, g2, d2, t2, os'⟩ := s'
      obtain ⟨t0, G, J, kG, ge, hoe, na⟩ := mk_end0 (d2 := d2) (t2 := t2) I1 hsz kk un2 hok2 os2 bare2 ea ed hd1
      exact ⟨rv2, ⟨hp.objs.size + 1, _, _, ⟨G, g2, d2, t2, os'⟩, _, .ref C, some d, rfl, J, kG, ge, hoe, ⟨rfl, rfl, fun vs hv => by cases hv; rfl⟩, rfl, rfl, na, rfl, bare2, raises_own T.exC T.tyC, q2⟩⟩
    | next => exact False.elim hq'
    | brk => exact False.elim hq'
    | cont => exact False.elim hq'
end
section
variable {X : Cx} {W : WX}
def sRaise1 (x f : Str) (g : FE) : FStm := fun ρ M => SR.of (g ρ M) ρ fun d M1 => .ex ⟨.gl x, some [(f, d)]⟩ ρ M1
theorem ms_raise1 {x f : Str} {e : Expr} {fe : FE} {p pos pos' : Pos} (hc : X.calm = true) (tk : L2N.Takes X W) (c : ExcOk X x f) (hg : Gl X x) (hm : X.mg x = some (.ref (He.ga X.K x))) (he : ME X W e fe)
    (hdb : (x == ("__debug__" : Str)) = false := by decide) (hst : starEach [e] X.env = [(false, eval e X.env)] := by rfl) (hpl : (backTo pos (starEach [] X.env)).any (·.1) = false := by rfl) :
    MS X W (.Raise (some (.Call (.Name x p) [e] [] pos)) none pos') (sRaise1 x f fe) := by
  obtain ⟨fI, fd, ps, k, iC, tI, F1, hr, hb⟩ := c.ini
  refine PS.weak (L2N.ps_raise hc tk (pmkN_oex c.T iC tI F1 hr hb (fun _ _ _ _ _ _ _ h => h.elim) hg hm (pa_cons he pa_nil hst) hdb hst hpl)) fun D σ H h => ?_
  refine tM.mono (fun v H1 ⟨μ, M, ρ, d, r, ev, q, a⟩ => ?_) (tSt.expr (rel := DV X.K) h)
  refine ⟨by simp, fun a0 hn => ⟨a0, He.ga X.K x, v, rfl, c.T, c.no, upd_same, fun dx h1 h2 => ?_⟩⟩
  rw [upd_ne h2] at h1
  refine ⟨rfl, dx, [(f, v)], upd_same, by rw [upd_ne h2, upd_same], h1, ?_⟩
  have eH : upd (del (upd (upd (upd H1 a0 (exo a0 (He.ga X.K x) none)) dx (exd dx [(f, v)])) a0 (exo a0 (He.ga X.K x) (some dx))) a0) dx (.xd [(f, v)]) = upd H1 dx (.xd [(f, v)]) := by
    funext b
    by_cases hb1 : b = dx
    · subst hb1; rw [upd_same, upd_same]
    · rw [upd_ne hb1, upd_ne hb1]
      by_cases hb2 : b = a0
      · subst hb2; rw [del_same, hn]
      · rw [del_ne hb2, upd_ne hb2, upd_ne hb1, upd_ne hb2]
  rw [eH]
  exact a μ _ σ _ _ (Lift.fresh h1) (r.fresh h1) (ev.lift (Lift.fresh h1)) ⟨rfl, dx, [(f, v)], rfl, upd_same, v, [], rfl, q.lift (Lift.fresh h1), rfl⟩
/-! ### try: body / except C as n: return n.f -/
def sTryF (x f : Str) (i : Nat) (g : FStm) : FStm := fun ρ M => match g ρ M with
  | .ex ⟨.gl y, some fs⟩ ρ' M' => if y = x ∧ i < ρ'.length then (match fs.lookup f with
    | some d => .go (.ret d) ρ' M'
    | none => .no) else .no
  | .ex _ _ _ => .no
  | r => r
theorem ms_tryF {x n f : Str} {i : Nat} {body : List Stmt} {np p1 p2 p3 pos pos' : Pos} {g : FStm} (hs : X.stack = X.env :: X.outer) (hf : X.env.frame = some X.env.locals) (hN : X.N.Nodup) (hi : X.N[i]? = some n) (hln : X.env.kindOf n = some .local)
    (hvis : X.env.scope.names.lookup n = some .local) (hnd : (n == ("__debug__" : Str)) = false) (hncd : (n == ("__classdict__" : Str)) = false)
    (hg : Gl X x) (hm : X.mg x = some (.ref (He.ga X.K x))) (hdb : (x == ("__debug__" : Str)) = false) (tk : L2N.Takes X W) (hex : PySem.W.exmOne X.K (.ref (He.ga X.K x)) (.ref (He.ga X.K x)) = some true) (T : XfC X.K (He.ga X.K x)) (hno : PySem.W.findIn X.K (.ref (He.ga X.K x)) f = some none)
    (hb : ∀ (W : WX) (pn : List (Addr × Obj)) (xe : Value → Shared → Prop), L2N.Takes (X.tr pn xe) W → MSs (X.tr pn xe) W body g) :
    MS X W (.Try body [.ExceptHandler (some (.Name x np)) (some n) [.Return (some (.Attribute (.Name n p1) f p2)) p3] pos'] [] [] pos) (sTryF x f i g) := by
  refine PS.weak (L2N.ps_try_as (c := .ref (He.ga X.K x)) (Wout := W) (tb := fun W => tSt X.K W g) (ts := fun a cls d => tRet (tXf a cls d (He.ga X.K x) f (tVar i))) hs hf hN hi hln ⟨hg, hdb, .inl hm⟩ tk (fun W pn xe t _ => hb W pn xe t)
    (fun a oe cls d pn hz hv => pss_one (ps_ret (pe_xf T hno hz.zc hv (pe_var (i := i) hi (Or.inl hvis) hnd hncd))))) fun D σ H ⟨μ, M, ρ, r, e, a⟩ => ⟨μ, M, ρ, r, e, ?_⟩
  unfold sTryF at a
  cases hgg : g ρ M with
  | go fl ρ1 M1 => rw [hgg] at a; cases fl <;> exact a
  | no => rw [hgg] at a; exact a.elim
  | ex ex ρ1 M1 =>
    rw [hgg] at a
    obtain ⟨cl, fso⟩ := ex
    cases cl with
    | gl y =>
      cases fso with
      | none => exact a.elim
      | some fs =>
        dsimp only at a
        by_cases hc : y = x ∧ i < ρ1.length
        · rw [if_pos hc] at a
          obtain ⟨hy, hil⟩ := hc
          subst hy
          cases hl : fs.lookup f with
          | none => rw [hl] at a; exact a.elim
          | some d =>
            rw [hl] at a
            intro μ' H' σ' cls dd l r' e' hx
            obtain ⟨h1, ad, gs, h2, h3, h4⟩ := hx
            have h1' : cls = .ref (He.ga X.K y) := h1
            have hk := FV.look (f := f) h4
            rw [hl] at hk
            obtain ⟨v, h5, h6⟩ := hk
            subst h1'
            exact ⟨true, hex, fun _ a0 hn => ⟨.ref a0, by rw [List.getElem?_set_self (by rw [e'.len]; exact hil)], rfl, rfl, ad, gs, v, h2, h3, h5, a μ' H' v l r' h6⟩, fun z => by cases z⟩
        · rw [if_neg hc] at a; exact a.elim
    | _ => exact a.elim
end
end Br
namespace BrH
open PySem PySem.Spec PyProof.Rows L2 Br He
/-- an own class over ValueError whose objects keep the field f -/
def excB (K : PySem.W.Frag) (C : Addr) (f : Str) : Bool := (match K.lookup C with
    | some ⟨.type "type", _, .cls cd, sl⟩ => (match cd.mro, sl.toList with
      | .ref C' :: bm, [_, _, _, _, some (.builtin n), _] => C' == C && n == "ValueError.__new__" && !cd.hasDel && cd.hasDict && PySem.HandSPX.refsVE bm
      | _, _ => false)
    | _ => false) && ((match PySem.W.findIn K (.ref C) "__setattr__" with
    | some (some v) => v == .builtin "object.__setattr__"
    | _ => false) && ((PySem.W.subIn K (.ref C) (.type "BaseException") == some true) && ((match PySem.W.typeIn K (.ref C) with
    | some v => v == .type "type"
    | _ => false) && (PySem.W.keepIn K (.ref C) && ((match PySem.W.findIn K (.ref C) f with
    | some none => true
    | _ => false) && ((match PySem.W.findIn K (.ref C) "__getattribute__" with
    | some (some v) => v == .builtin "BaseException.__getattribute__"
    | _ => false) && ((match PySem.W.findIn K (.ref C) "__getattr__" with
    | some none => true
    | _ => false) && (PySem.W.hasDictIn K C && (PySem.W.exmOne K (.ref C) (.ref C) == some true)))))))))
structure ExcF (K : PySem.W.Frag) (C : Addr) (f : Str) : Prop where
  T : OexC K C
  no : PySem.W.findIn K (.ref C) f = some none
  xf : XfC K C
  ex : PySem.W.exmOne K (.ref C) (.ref C) = some true
theorem excB_ok {K : PySem.W.Frag} {C : Addr} {f : Str} (h : excB K C f = true) : ExcF K C f := by
  unfold excB at h
  obtain ⟨h1, h⟩ := Bool.and_eq_true_iff.mp h
  obtain ⟨h2, h⟩ := Bool.and_eq_true_iff.mp h
  obtain ⟨h3, h⟩ := Bool.and_eq_true_iff.mp h
  obtain ⟨h4, h⟩ := Bool.and_eq_true_iff.mp h
  obtain ⟨h5, h⟩ := Bool.and_eq_true_iff.mp h
  obtain ⟨h6, h⟩ := Bool.and_eq_true_iff.mp h
  obtain ⟨h7, h⟩ := Bool.and_eq_true_iff.mp h
  obtain ⟨h8, h⟩ := Bool.and_eq_true_iff.mp h
  obtain ⟨h9, h10⟩ := Bool.and_eq_true_iff.mp h
  have e2 : PySem.W.findIn K (.ref C) "__setattr__" = some (some (.builtin "object.__setattr__")) := by
    split at h2
    · rename_i v e; rw [e, beq_iff_eq.mp h2]
    · cases h2
  have e4 : PySem.W.typeIn K (.ref C) = some (.type "type") := by
    split at h4
    · rename_i v e; rw [e, beq_iff_eq.mp h4]
    · cases h4
  have e6 : PySem.W.findIn K (.ref C) f = some none := by
    split at h6
    · rename_i e; exact e
    · cases h6
  have e7 : PySem.W.findIn K (.ref C) "__getattribute__" = some (some (.builtin "BaseException.__getattribute__")) := by
    split at h7
    · rename_i v e; rw [e, beq_iff_eq.mp h7]
    · cases h7
  have e8 : PySem.W.findIn K (.ref C) "__getattr__" = some none := by
    split at h8
    · rename_i e; exact e
    · cases h8
  refine ⟨⟨?_, e2, beq_iff_eq.mp h3, e4, h5⟩, e6, ⟨e7, e8, beq_iff_eq.mp h3, h9⟩, beq_iff_eq.mp h10⟩
  split at h1
  · rename_i dd cd sl ho
    split at h1
    · rename_i C' bm k0 k1 k2 k3 n k5 hm hs
      simp only [Bool.and_eq_true, beq_iff_eq, Bool.not_eq_true'] at h1
      obtain ⟨⟨⟨⟨rfl, rfl⟩, hdel⟩, hdict⟩, ht⟩ := h1
      obtain ⟨nm, bs, mro, ns, qn, hd, sn, sub, ab, col, del⟩ := cd
      dsimp only at hm hdel hdict
      subst hm hdel hdict
      have hsl : sl = #[k0, k1, k2, k3, some (.builtin "ValueError.__new__"), k5] := by
        obtain ⟨l⟩ := sl
        simp only at hs
        rw [hs]
      subst hsl
      exact ⟨nm, qn, ns, bs, bm, sn, sub, ab, col, dd, k0, k1, k2, k3, k5, ho, ht⟩
    · cases h1
  · cases h1
end BrH
end
section
namespace Br
open PySem PySem.Spec PyProof.Rows L2
/-! ### a, *b = a list -/
theorem star_lst2 {prog : Program} {w : World} {A : Around} {E : Value → Shared → Prop} {s : Shared} {l : Addr} {items : Array Value} {n i : Nat} {Q : List Value → Shared → Prop} (hl : s.heap.IsList l items) (hh : A.handled = none) (hi : i < n) (hn : n ≤ items.size + 1) (hz : items.size ≤ 16384)
    (h : ∀ (h2 : Heap) (tk : Nat), (∀ b o, s.heap.get? b = some o → h2.get? b = some o) →
      Q (items.toList.take i ++ [Value.ref h2.objs.size] ++ (items.toList.drop i).drop (items.size + 1 - n)) { s with heap := h2.push { cls := .type "list", data := .seq ((items.toList.drop i).take (items.size + 1 - n)).toArray }, toks := tk }) :
    wpAny (model prog w) A (unpackItems (.ref l) n (some i)) Q E s := by
  have hne : l ≠ s.heap.objs.size := by
    obtain ⟨o, ho, _⟩ := hl
    exact Nat.ne_of_lt (Heap.lt_size ho)
  unfold unpackItems notIterableAtAll
  refine wpAny_bind (wpAny_bind (wpAny_specialOf hl.typeIs slot_list_iter.lookup (wpAny_pure ?_)))
  rw [if_neg (by decide)]
  refine wpAny_bind (wpAny_holding (wpAny_pyIter_list hl ?_))
  refine wpAny_bind (wpAny_holding (PySem.W.kun_draw hne i 0 _ _ ⟨_, Heap.get?_push_size _ rfl, rfl, rfl⟩ (hl.push _) (by omega) fun h1 t1 b1 => ?_))
  have l1 : h1.IsList l items := (hl.push _).extBut b1.extBut hne
  have z1 : (items.toList.take i).length = i := by
    rw [List.length_take, Array.length_toList]
    omega
  have z2 : (items.toList.drop i).length = items.size - i := by rw [List.length_drop, Array.length_toList]
  rw [List.drop_zero, if_neg (by rw [z1]; omega)]
  rw [Nat.zero_add] at t1
  obtain ⟨oi, e1, _⟩ := id t1
  obtain ⟨ol, e2, _⟩ := id l1
  refine wpAny_bind (wpAny_holding (PySem.W.kun_collect (s := { s with heap := h1 }) (T := "list_iterator") (.inr (.inr (.inl rfl))) (Walks.list (A := A.in1) hh s.heap.objs.size l hne items) (fun j u st => st.1.typeIs) (k := i) (by omega) ⟨t1, l1⟩ (Heap.lt_size e1) (Heap.lt_size e2)
    (fun h2 tk k2 => ?_) (by rw [sizeLine_eq]; omega)))
  show wpAny _ _ (if (items.toList.drop i).length < n - 1 - i then _ else _) _ _ _
  rw [if_neg (by rw [z2]; omega)]
  show wpAny _ _ (newList ((items.toList.drop i).take ((items.toList.drop i).length - (n - 1 - i))) >>= fun d => pure (items.toList.take i ++ [d] ++ (items.toList.drop i).drop ((items.toList.drop i).length - (n - 1 - i)))) _ _ _
  have z3 : (items.toList.drop i).length - (n - 1 - i) = items.size + 1 - n := by rw [z2]; omega
  rw [z3]
  have k3 : ∀ b o, s.heap.get? b = some o → h2.get? b = some o := fun b o e => by
    have hb : b ≠ s.heap.objs.size := Nat.ne_of_lt (Heap.lt_size e)
    exact k2 b o hb (b1.extBut b o hb (Heap.get?_push_of_some _ e))
  exact wpAny_bind (wpAny_newObj_type (wpAny_pure (h h2 tk k3)) (by
    show ((items.toList.drop i).take (items.size + 1 - n)).toArray.size ≤ sizeLine
    rw [List.size_toArray, List.length_take, z2, sizeLine_eq]; omega))
/-- a, *b = d: d a list of one or more, b a list that nobody writes -/
def gStarL (gs : List D → FStm) : FG := fun d ρ M => match seqL M d with
  | some (x :: xs) => if xs.length < 16384 then gs [x, .lst xs] ρ M else .no
  | _ => .no
theorem mg_starL {X : Cx} {W : WX} {t1 t2 : Expr} {p pos : Pos} {k : Nat} {gs : List D → FStm} (hc : X.calm = true) (h : MGs X W [t1, t2] gs)
    (hn : (assignEach [t1, .Starred t2 p] X.env).length = 2 := by rfl) (hst : (assignEach [t1, .Starred t2 p] X.env).findIdx? (·.1) = some 1 := by rfl)
    (hm : (assignEach [t1, .Starred t2 p] X.env).map (·.2) = (assignEach [t1, t2] X.env).map (·.2) := by rfl) : MG X W (.Tuple [t1, .Starred t2 p] k pos) (gStarL gs) := by
  refine ⟨fun pins s σ H v u Q I rv ⟨μ, M, ρ, d, r, e, q, a⟩ => ?_⟩
  unfold gStarL at a
  split at a
  · rename_i x xs hsq
    split at a
    · rename_i hl
      obtain ⟨p, vs, ev, sq, dq⟩ := seqL_ok r q hsq
      obtain ⟨y, ys, e2, q1, q2⟩ := dq.inv_cons
      subst ev; subst e2
      cases rv
      obtain ⟨its, rvs, ht0, hz⟩ := I.list sq
      have ht := ht0.isList
      obtain ⟨u0, us, rfl, ru, rus⟩ : ∃ u0 us, its = u0 :: us ∧ RelV y u0 ∧ Vals ys us := by
        cases rvs with
        | cons h1 h2 => exact ⟨_, _, rfl, h1, h2⟩
      have hus : us.length = xs.length := by rw [← rus.length]; exact q2.length
      rw [PyProof.Rows.assign_Tuple]
      refine wpAny_bind (wpAny_standAt ?_)
      unfold unpack
      rw [hn, hst]
      refine wpAny_bind (wpAny_holding (star_lst2 ht (I.ok.hd hc) (by decide) (by simp) (by simp; omega) fun h2 tk k2 => ?_))
      rw [hm]
      have e3 : ((u0 :: us).toArray.toList.drop 1).take ((u0 :: us).toArray.size + 1 - 2) = us := by simp
      have e4 : (u0 :: us).toArray.toList.take 1 ++ [Value.ref h2.objs.size] ++ ((u0 :: us).toArray.toList.drop 1).drop ((u0 :: us).toArray.size + 1 - 2) = [u0, Value.ref h2.objs.size] := by simp
      rw [e3, e4]
      have I2 : Inv X pins σ H { s with heap := h2, toks := tk } := I.kept k2
      have hHn : H h2.objs.size = none := I2.hok.fresh (Nat.le_refl _)
      have sz : us.length ≤ sizeLine := by rw [hus, sizeLine_eq]; omega
      have I3 : Inv X pins σ (upd H h2.objs.size (.lst ys)) { s with heap := h2.push { cls := .type "list", data := .seq us.toArray }, toks := tk } :=
        I2.laid (t' := tk) (fun b o e => Heap.get?_push_of_some _ e) (Nat.le_refl _) ⟨by rw [rus.length]; exact sz, us, 0, rus, Heap.get?_push_size _ rfl⟩
      obtain ⟨ob, I4⟩ := Inv.lock I3 upd_same
      rw [upd_upd] at I4
      refine h.run pins _ σ _ [y, .ref h2.objs.size] [u0, .ref h2.objs.size] Q I4 (.cons ru (.cons rfl .nil)) ⟨μ, M, ρ, [x, .lst xs], r.fresh hHn, e.lift (Lift.fresh hHn), ?_, AnsS.rebase (Lift.fresh hHn) a⟩
      refine DVs.cons (q1.lift (Lift.fresh hHn)) (DVs.cons ?_ DVs.nil)
      unfold DV
      exact ⟨_, ys, rfl, .inl ⟨ob, upd_same⟩, q2.lift (Lift.fresh hHn)⟩
    · exact a.elim
  · exact a.elim
end Br
end
section
namespace Br
open PySem PySem.Spec PyProof.Rows L2
/-! ### an instance with its own == beside anything; isinstance(x, C) of anything -/
section
variable {X : Cx}
/-- no built-in type is below the class -/
structure AnyC (K : PySem.W.Frag) (C : Addr) : Prop where
  sub : ∀ t ∈ "NoneType" :: tyNames, PySem.W.subIn K (.type t) (.ref C) = some false
  kit : ∀ t ∈ "NoneType" :: tyNames, PySem.W.kitOne K (.type t) (.ref C) = some false
def AnyF (X : Cx) (cs : List Str) : Prop := ∀ c ∈ cs, AnyC X.K (He.ga X.K c)
theorem anf_nil : AnyF X [] := fun c h => by cases h
theorem anf_cons {c : Str} {cs : List Str} (h1 : AnyC X.K (He.ga X.K c)) (t : AnyF X cs) : AnyF X (c :: cs) := fun b h => by
  rcases List.mem_cons.mp h with rfl | h
  · exact h1
  · exact t b h
def gIsiA (cs : List Str) : FL := fun ds M => match ds with
  | [d, .gl g] => (match insOf M d with
    | some _ => gIsiO cs [d, .gl g] M
    | none => (match tyD M d with
      | some _ => if g ∈ cs then .ok (.bl false) M else .no
      | none => .no))
  | ds => gIsi ds M
theorem cm_isiA {cs : List Str} (hf : IsiF X cs) (ha : AnyF X cs) : CallM X (.builtin "isinstance") (gIsiA cs) := by
  intro W pins s σ H xs us Q I rv ⟨μ, M, as, r, q, an⟩
  unfold gIsiA at an
  split at an
  · rename_i d g
    split at an
    · exact cm_isiO hf W pins s σ H xs us Q I rv ⟨μ, M, _, r, q, an⟩
    · split at an
      · rename_i t ht
        split at an
        · rename_i hm
          have f := ha g hm
          obtain ⟨v, r', e, q1, q2⟩ := q.inv_cons
          obtain ⟨v2, r2, e2, q3, q4⟩ := q2.inv_cons
          rw [e, e2, q4.inv_nil, gl_dv q3] at rv
          obtain ⟨h1, h2⟩ := tyD_ok r q1 ht
          exact call_isi pins s σ H _ us Q I rv ⟨v, .ref (He.ga X.K g), _, .ref (He.ga X.K g), false, rfl, .own _, h1, f.kit t h2, ans_pure r dv_bl an⟩
        · exact an.elim
      · exact an.elim
  · exact cm_isi W pins s σ H xs us Q I rv ⟨μ, M, _, r, q, an⟩
/-- == of an instance with anything -/
def gEqA (tb : PTb) (k : Bool) (g : F2) : F2 := fun x y M => match insOf M x with
  | some (n, c, _) => (match insOf M y with
    | some _ => gEqO tb k g x y M
    | none => (match tyD M y with
      | some _ => (match tb.lookup c with
        | some G => blR (G [.ref n, y] M) k
        | none => .no)
      | none => .no))
  | none => g x y M
def AnyT (X : Cx) (tb : PTb) : Prop := ∀ c G, tb.lookup c = some G → AnyC X.K (He.ga X.K c)
theorem ant_nil : AnyT X [] := fun c G h => by cases h
theorem ant_cons {c : Str} {G : FL} {tb : PTb} (h1 : AnyC X.K (He.ga X.K c)) (t : AnyT X tb) : AnyT X ((c, G) :: tb) := fun b G' h => by
  rw [List.lookup_cons] at h
  split at h
  · rename_i hb
    cases h
    rw [eq_of_beq hb]; exact h1
  · exact t b G' h
theorem om_eqA {tb : PTb} (ht : STs_ X "__eq__" 2 tb) (ha : AnyT X tb) (hgd : X.A.guards = some []) (hu : X.A.units + 64 < cLine) : OpM X (compareOp .Eq) (gEqA tb true gEq) := by
  intro W pins s σ H x y v u Q I rx ry ⟨μ, M, a, b, r, qa, qb, an⟩
  unfold gEqA at an
  split at an
  · rename_i n c fs hi
    split at an
    · exact om_eqO ht hgd hu W pins s σ H x y v u Q I rx ry ⟨μ, M, a, b, r, qa, qb, an⟩
    · split at an
      · rename_i t hty
        obtain ⟨ea, eva, dx, gs, h1, h2⟩ := insOf_ok r qa hi
        subst ea eva
        obtain rfl : v = Value.ref (μ n) := rx
        obtain ⟨hT, hmem⟩ := tyD_ok r qb hty
        obtain ⟨P, Z, p, hx⟩ := kit_of I ry hT
        split at an
        · rename_i G hG
          obtain ⟨ga, fd, ps, k, c1, c2, F, hb, hr⟩ := (ht c G hG).ex
          obtain ⟨mA, O, _, _, _, _⟩ := ins_get I.hok h1
          obtain ⟨od, J, _⟩ := O.look
          obtain ⟨m, hF⟩ := I.fr
          have hnf : PySem.W.notFirst X.K (He.ga X.K c) (.type t) = true := by
            unfold PySem.W.notFirst
            rw [(ha c G hG).sub t hmem]; simp
          refine PySem.W.cmp_ofEq (PySem.W.cmp_K (op := .Eq) (tb := .type t) (by omega) hF I.ok.mod.kin J (Z.ty _ _ I.kIn p) hnf c1 (beq_iff_eq.mpr c2) ?_)
          have z := run_at (A' := X.A) (us := [Value.ref (μ n), u]) (ws := []) (vs := [V.ref (μ n), y]) (zs := []) (ks := []) (ds := [.ref n, b]) (es := []) (E' := X.xe) F hb (hr.mono (by omega)) hgd I.env0 I (.cons rfl (.cons ry .nil)) .nil r (DVs.cons qa (DVs.cons qb DVs.nil)) DVs.nil rfl rfl (ans_blR an)
          refine wpAny_mono z (fun v s' hv => ?_) (fun _ _ e => e)
          obtain ⟨V, H', I', rv, ⟨i, ei, q⟩⟩ := hv
          subst ei
          obtain rfl : v = Value.bool i := rv
          exact ⟨V.bl i, H', I', rfl, q⟩
        · exact an.elim
      · exact an.elim
  · exact om_eq hu W pins s σ H x y v u Q I rx ry ⟨μ, M, a, b, r, qa, qb, an⟩
theorem om_neA {tb : PTb} (ht : STs_ X "__eq__" 2 tb) (ha : AnyT X tb) (hn : NeOk X tb) (hgd : X.A.guards = some []) (hu : X.A.units + 64 < cLine) : OpM X (compareOp .NotEq) (gEqA tb false gNe) := by
  intro W pins s σ H x y v u Q I rx ry ⟨μ, M, a, b, r, qa, qb, an⟩
  unfold gEqA at an
  split at an
  · rename_i n c fs hi
    split at an
    · exact om_neO ht hn hgd hu W pins s σ H x y v u Q I rx ry ⟨μ, M, a, b, r, qa, qb, an⟩
    · split at an
      · rename_i t hty
        obtain ⟨ea, eva, dx, gs, h1, h2⟩ := insOf_ok r qa hi
        subst ea eva
        obtain rfl : v = Value.ref (μ n) := rx
        obtain ⟨hT, hmem⟩ := tyD_ok r qb hty
        obtain ⟨P, Z, p, hx⟩ := kit_of I ry hT
        split at an
        · rename_i G hG
          obtain ⟨ga, fd, ps, k, c1, c2, F, hb, hr⟩ := (ht c G hG).ex
          obtain ⟨hm, hne⟩ := hn c G hG
          obtain ⟨mA, O, _, _, _, _⟩ := ins_get I.hok h1
          obtain ⟨od, J, _⟩ := O.look
          have hnf : PySem.W.notFirst X.K (He.ga X.K c) (.type t) = true := by
            unfold PySem.W.notFirst
            rw [(ha c G hG).sub t hmem]; simp
          refine PySem.W.cmp_ofNotEq (ne_K (tb := .type t) (by omega) (by have := hr.in1.units0; exact this) I.kIn J (Z.ty _ _ I.kIn p) hnf hm hne c1 (beq_iff_eq.mpr c2) ?_)
          have z := run_at (A' := X.A.in1) (us := [Value.ref (μ n), u]) (ws := []) (vs := [V.ref (μ n), y]) (zs := []) (ks := []) (ds := [.ref n, b]) (es := []) (E' := X.xe) F hb hr.in1 hgd I.env0.in1 I (.cons rfl (.cons ry .nil)) .nil r (DVs.cons qa (DVs.cons qb DVs.nil)) DVs.nil rfl rfl (ans_blR an)
          refine wpAny_mono z (fun v s' hv => ?_) (fun _ _ e => e)
          obtain ⟨V, H', I', rv, ⟨i, ei, q⟩⟩ := hv
          subst ei
          obtain rfl : v = Value.bool i := rv
          exact ⟨i, rfl, V.bl (!i), H', I', rfl, q⟩
        · exact an.elim
      · exact an.elim
  · exact om_ne hu W pins s σ H x y v u Q I rx ry ⟨μ, M, a, b, r, qa, qb, an⟩
end
end Br
namespace BrH
open PySem PySem.Spec PyProof.Rows L2 Br He
def anyB (K : PySem.W.Frag) (C : Addr) : Bool := ("NoneType" :: tyNames).all fun t => PySem.W.subIn K (.type t) (.ref C) == some false && PySem.W.kitOne K (.type t) (.ref C) == some false
theorem anyB_ok {K : PySem.W.Frag} {C : Addr} (h : anyB K C = true) : AnyC K C := by
  unfold anyB at h
  refine ⟨fun t ht => ?_, fun t ht => ?_⟩
  · exact beq_iff_eq.mp (Bool.and_eq_true_iff.mp (List.all_eq_true.mp h t ht)).1
  · exact beq_iff_eq.mp (Bool.and_eq_true_iff.mp (List.all_eq_true.mp h t ht)).2
end BrH
end
section
namespace Br
open PySem PySem.Spec PyProof.Rows L2
/-! ### tuple(a list), told with its object; t.index(int) of such a tuple -/
section
variable {X : Cx} {W : WX}
/-- tuple(a list): the object that comes is plain -/
def gTupP : FL := fun ds M => match ds with
  | [d] => (match seqL M d with
    | some xs => .ok (.ptp xs) M
    | none => .no)
  | _ => .no
theorem ptp_of_lst {μ : Nat → Addr} {N : Nat} {H : Hp} {l : Addr} {o : Obj} {ds : List D} {xs : List V} {K : PySem.W.Frag} (hc : o.cls = .type "tuple") (hd : o.dict = none) (q : DVs K μ N H ds xs) (hl : H l = none) : DV K μ N (upd H l (.frz o (.tup xs))) (.ptp ds) (.ref l) := by
  unfold DV
  exact ⟨l, xs, o, rfl, upd_same, hd, hc, q.lift (Lift.fresh hl)⟩
theorem cm_tupP : CallM X (.type "tuple") gTupP := by
  intro W pins s σ H xs us Q I rv ⟨μ, M, as, r, q, an⟩
  unfold gTupP at an
  split at an
  · split at an
    · rename_i ds hd
      obtain ⟨v, r', e, q1, q2⟩ := q.inv_cons
      obtain ⟨a, ys, ev, sq, dq⟩ := seqL_ok r q1 hd
      rw [e, q2.inv_nil, ev] at rv
      obtain ⟨u, rfl, rx⟩ := vals1 rv
      cases rx
      obtain ⟨its, r2, pl, hz⟩ := I.list sq
      have hlen := r2.length
      refine call_tuple_list pl.isList (fun h2 kp => ?_) (by simp only [List.size_toArray] <;> omega)
      have J : Inv X pins σ H { s with heap := h2 } := I.kept (t' := s.toks) kp
      have hfree := J.hok.fresh (Nat.le_refl _)
      have J2 : Inv X pins σ (upd H h2.objs.size (.frz { cls := .type "tuple", data := .seq its.toArray } (.tup ys))) { s with heap := h2.push { cls := .type "tuple", data := .seq its.toArray } } :=
        J.laid (t' := s.toks) (fun b ob hb => Heap.get?_push_of_some _ hb) (Nat.le_refl _) ⟨Heap.get?_push_size _ rfl, hz, its, r2, IsTup.new _ _⟩
      exact ⟨.ref h2.objs.size, _, J2, rfl, an μ _ _ (Lift.fresh hfree) (r.fresh hfree) (ptp_of_lst rfl rfl dq hfree)⟩
    · exact an.elim
  · exact an.elim
/-- seen as any tuple -/
def eWk (f : FE) : FE := fun ρ M => (f ρ M).bind fun d M1 => match d with
  | .ptp ds => .ok (.tup ds) M1
  | d => .ok d M1
theorem me_wk {e : Expr} {f : FE} (h : ME X W e f) : ME X W e (eWk f) := by
  refine PE.weak h fun σ H Q hq => ?_
  refine tM.mono (fun v H1 ⟨μ, M, ρ, d, r, ev, q, a⟩ => ?_) (tM.seq (rel := DV X.K) hq)
  cases d with
  | ptp ds =>
    have q' : ∃ a xs o, v = .ref a ∧ H1 a = some (.frz o (.tup xs)) ∧ o.dict = none ∧ o.cls = .type "tuple" ∧ DVs X.K μ M.length H1 ds xs := by unfold DV at q; exact q
    obtain ⟨b, xs, o, rfl, hb, _, _, dq⟩ := q'
    exact a μ H1 _ (Lift.refl ..) r (by unfold DV; exact ⟨b, xs, rfl, .inl (.inr ⟨o, hb⟩), dq⟩)
  | _ => exact a μ H1 v (Lift.refl ..) r q
def intsD : List D → Option (List Int)
  | [] => some []
  | .int i :: r => (intsD r).map (i :: ·)
  | _ :: _ => none
theorem intsD_eq : ∀ {ds : List D} {is : List Int}, intsD ds = some is → ds = is.map D.int
  | [], is, h => by cases h; rfl
  | d :: ds, is, h => by
    cases d with
    | int i =>
      unfold intsD at h
      cases e : intsD ds with
      | none => rw [e] at h; cases h
      | some js => rw [e] at h; cases h; rw [intsD_eq e]; rfl
    | _ => cases h
/-- t.index(i) -/
def gTIdx : F2 := fun x y M => match x, y with
  | .ptp ds, .int i => (match intsD ds with
    | some is => if i ∈ is then .ok (.int ((is.idxOf i : Nat) : Int)) M else .no
    | none => .no)
  | _, _ => .no
theorem dvs_ints {K : PySem.W.Frag} {μ : Nat → Addr} {N : Nat} {H : Hp} : ∀ {is : List Int} {xs : List V}, DVs K μ N H (is.map D.int) xs → xs = is.map V.int
  | [], xs, h => by rw [List.map_nil] at h; exact h.inv_nil
  | i :: is, xs, h => by
    rw [List.map_cons] at h
    obtain ⟨v, r, e, q1, q2⟩ := h.inv_cons
    rw [e, int_dv q1, dvs_ints q2]; rfl
theorem flat_ints (ns : List Int) : (ns.map V.int).all L2.flatV = true := by
  induction ns with
  | nil => rfl
  | cons n r ih => rw [List.map_cons, List.all_cons, ih]; rfl
theorem ints_eqU (z i : Int) (t : Tok) : eqU (.int z) (Value.int i t) = decide (i = z) := by
  show eqV (.int i) (.int z) = _
  unfold eqV
  rw [Bool.eq_iff_iff]; simp
theorem mt_tidx : MtR X "tuple.index" (fun x xs H Q => ∃ (b : Addr) (ns : List Int) (z : Int) (j : Nat), x = .ref b ∧ xs = [.int z] ∧ SqT X.K H b (ns.map V.int) ∧ ns[j]? = some z ∧ (∀ m, m < j → ns[m]? ≠ some z) ∧ Q (.int (j : Nat)) H) := by
  intro pins s σ H x xs v us Q I rx rs ⟨b, ns, z, j, ex, exs, hsq, hj, hfirst, hQ⟩
  subst ex exs
  have ev : v = Value.ref b := rx
  subst ev
  obtain ⟨u, rfl, t, rfl⟩ := vals1 rs
  obtain ⟨its, rel, ⟨ob, hob, hcls, cnt, hdat⟩, hsz⟩ := I.tuple hsq
  have hsize : its.length = ns.length := by rw [← rel.length, List.length_map]
  have hjl : j < its.toArray.size := by
    rw [List.size_toArray, hsize]
    exact (List.getElem?_eq_some_iff.mp hj).1
  have item : ∀ (m : Nat) (hm : m < its.toArray.size), ∃ y t', ns[m]? = some y ∧ its.toArray[m] = Value.int y t' := fun m hm => by
    have hm2 : m < ns.length := by rw [List.size_toArray, hsize] at hm; exact hm
    obtain ⟨w, hw, t', hw'⟩ := rel.get (i := m) (x := .int ns[m]) (by simp [hm2])
    refine ⟨ns[m], t', List.getElem?_eq_getElem hm2, ?_⟩
    have e := (List.getElem?_eq_some_iff.mp hw).2
    rw [← hw', ← e]
    simp
  obtain ⟨oc, od, odt, osl⟩ := ob
  simp only at hcls hdat
  subst hcls hdat
  have hitem := mem_eqAt (A := X.A.in1) (s := s) (x := .int z) ⟨t, rfl⟩ rfl rel (flat_ints ns)
  refine call_meets PySem.F.slot_tuple_index ⟨_, hob, rfl⟩ PySem.F.entry_tuple_index (PySem.F.args_tuple_index_2 _ _) (TI.tuple_indexAt b its.toArray cnt od osl (.int z t) (eqU (.int z)) j hjl ?_ ?_)
    ⟨hob, fun w hw => mem_eqAt (x := .int z) ⟨t, rfl⟩ rfl rel (flat_ints ns) w (by simpa using hw), ⟨.int (j : Nat), H, I.tok _, ⟨_, rfl⟩, hQ⟩⟩
  · obtain ⟨y, t', e1, e2⟩ := item j hjl
    rw [hj] at e1; cases e1
    rw [e2, ints_eqU]; simp
  · intro m hm hmj
    obtain ⟨y, t', e1, e2⟩ := item m hm
    rw [e2, ints_eqU, decide_eq_false_iff_not]
    intro e; subst e
    exact hfirst m hmj e1
def eTIdx (fo fe : FE) : FE := fun ρ M => (fo ρ M).bind fun x M1 => match x with
  | .ptp ds => (fe ρ M1).bind fun y M2 => gTIdx (.ptp ds) y M2
  | _ => .no
theorem me_tidx {o e : Expr} {fo fe : FE} {apos cpos : Pos} (ho : ME X W o fo) (he : MA X W [e] (aC fe aN))
    (hbase : attributeBase o "index" X.env (eval o X.env) = eval o X.env := by rfl)
    (hfew : ((backTo cpos (starEach [e] X.env)).all (fun x => !x.1) && (backToKw cpos (keywordEach [] X.env)).all (fun x => x.1.isSome)
      && decide ([e].length + ([] : List Keyword).length + (if ([] : List Keyword).isEmpty then 0 else 1) < 30)) = true := by rfl)
    (hline : (apos.endLine == cpos.line) = true := by rfl) (hs : starEach [e] X.env = (false, eval e X.env) :: starEach [] X.env := by rfl) (hplain : (backTo cpos (starEach [] X.env)).any (·.1) = false := by rfl) :
    ME X W (.Call (.Attribute o "index" apos) [e] [] cpos) (eTIdx fo fe) := by
  refine ⟨fun pins s σ H Q I hw => ?_⟩
  refine wpAny_Call_method_late hbase hfew hline rfl (thn (ho.run pins s σ H _ I (tM.seq (rel := DV X.K) hw)) fun v s1 ⟨x, H1, I1, r1, μ, M, ρ, d, rr, ev, q, an⟩ => ?_)
  cases d with
  | ptp ds =>
    have q' : ∃ a xs o, x = .ref a ∧ H1 a = some (.frz o (.tup xs)) ∧ o.dict = none ∧ o.cls = .type "tuple" ∧ DVs X.K μ M.length H1 ds xs := by unfold DV at q; exact q
    obtain ⟨b, xs, ob, rfl, hb, hdict, hcls, dq⟩ := q'
    obtain rfl : v = Value.ref b := r1
    have hst : s1.heap.get? b = some ob := (show ObjOk X.prog X.w H1 s1.heap b (.frz ob (.tup xs)) from I1.hok b _ hb).1
    refine ⟨"tuple", "tuple.index", PySem.F.plainAttrs_tuple, PySem.F.slot_tuple_index, PySem.F.type_tuple_index, ⟨ob, hst, hcls⟩, fun c hc => by cases hc; exact ⟨ob, hst, hdict⟩, ?_⟩
    dsimp only at an
    have an' : Ans X.K (DV X.K) (fun c d H' => W c d σ H') μ M.length H1 ((aC fe aN ρ M).bind fun ys M2 => match ys with
      | [y] => gTIdx (.ptp ds) y M2
      | _ => .no) Q := by
      have : ((aC fe aN ρ M).bind fun ys M2 => match ys with
        | [y] => gTIdx (.ptp ds) y M2
        | _ => .no) = ((fe ρ M).bind fun y M2 => gTIdx (.ptp ds) y M2) := by
        unfold aC aN
        cases fe ρ M <;> rfl
      rw [this]; exact an
    have hA := he.run cpos pins s1 σ H1 _ I1 ⟨μ, M, ρ, rr, ev, Ans.bind (rel := DVs X.K) an'⟩
    rw [hs] at hA ⊢
    refine Calls.callWith_builtin (by show (false || (backTo cpos (starEach [] X.env)).any (·.1)) = false; rw [hplain] <;> rfl) (Calls.evalArgs_plain ?_)
    refine thn hA fun us s2 ⟨vs, H2, I2, r2, μ2, M2, ys, l, rr2, qy, an2⟩ => ?_
    have hb2 : H2 b = some (.frz ob (.tup xs)) := l.kp.frz _ _ _ hb
    cases ys with
    | nil => exact an2.elim
    | cons y ys =>
      cases ys with
      | cons y2 ys => exact an2.elim
      | nil =>
        obtain ⟨w, wr, ew, qw, qr⟩ := qy.inv_cons
        rw [qr.inv_nil] at ew
        subst ew
        dsimp only at an2
        cases y with
        | int i =>
          have hwi := int_dv qw
          subst hwi
          unfold gTIdx at an2
          dsimp only at an2
          cases hi : intsD ds with
          | none => rw [hi] at an2; exact an2.elim
          | some ns =>
            rw [hi] at an2
            dsimp only at an2
            have hds := intsD_eq hi
            subst hds
            have hxs := dvs_ints dq
            subst hxs
            by_cases hmem : i ∈ ns
            · rw [if_pos hmem] at an2
              have hlt : ns.idxOf i < ns.length := List.idxOf_lt_length_iff.mpr hmem
              refine mt_tidx pins s2 σ H2 (V.ref b) [V.int i] (Value.ref b) us Q I2 rfl r2 ⟨b, ns, i, ns.idxOf i, rfl, rfl, .inl (.inr ⟨ob, hb2⟩), ?_, fun m hm he => ?_, an2 μ2 H2 _ (Lift.refl ..) rr2 (by unfold DV; rfl)⟩
              · rw [List.getElem?_eq_getElem hlt, List.getElem_idxOf hlt]
              · obtain ⟨hml, e⟩ := List.getElem?_eq_some_iff.mp he
                have := List.not_of_lt_findIdx hm
                simp at this
                exact this e
            · rw [if_neg hmem] at an2; exact an2.elim
        | _ => exact an2.elim
  | _ => exact an.elim
end
end Br
end
section
namespace Br
open PySem PySem.Spec PyProof.Rows L2
open PySem.Builtin PySem.Builtin.Str
/-! ### a comprehension over a text while an exception is handled -/
/-- the handled exception stands in the base, its context is None -/
def HotB (base : Heap) (A : Around) : Prop := ∃ (a : Addr) (oe : Obj) (vs : Array Value), A.handled = some (.ref a) ∧ base.get? a = some oe ∧ oe.data = .fields vs ∧ vs[2]? = some .none
theorem HotB.at {X : Cx} {pins : List (Addr × Obj)} {σ : L2.St} {H : Hp} {s : Shared} (h : HotB X.base X.A) (I : Inv X pins σ H s) : ∃ x1, HotX.HotAt X.A x1 s.heap := by
  obtain ⟨a, oe, vs, h1, h2, h3, h4⟩ := h
  exact ⟨a, h1, oe, vs, I.bk a oe h2, h3, h4⟩
section
variable {prog : Program} {w : World} {A : Around} {E : Value → Shared → Prop} {s : Shared}
theorem text_end_hot {it x1 : Addr} {x : Str} {t : Tok} {i : Nat} {Q : Option Value → Shared → Prop} (hot : HotX.HotAt A x1 s.heap)
    (hit : s.heap.IsStrIter it "str_ascii_iterator" x t i) (hx : x.cps[i]? = none)
    (hQ : ∀ h', (∀ b o, b ≠ it → s.heap.get? b = some o → h'.get? b = some o) → Q none { s with heap := h' }) : wpAny (model prog w) A (pyNext (.ref it)) Q E s := by
  obtain ⟨o, ho, hc, hd⟩ := id hit
  obtain ⟨hh, o1, vs1, h1, d1, c1⟩ := hot
  have hne : it ≠ x1 := fun e => by
    subst e
    rw [ho] at h1
    cases h1
    rw [hd] at d1
    cases d1
    simp at c1
  unfold pyNext
  refine wpAny_bind (wpAny_attempt (wpAny_callSpecial?_slot (name := Str.ofString "__next__") hit.typeIs F.slot_str_ascii_iterator_next
    (wpAny_call_entry F.slot_str_ascii_iterator_next hit.typeIs F.entry_str_ascii_iterator_next ?_ (F.args_str_ascii_iterator_next_1 _))))
  show wpAny _ _ (field (.ref it) 0 >>= _) _ _ s
  refine wpAny_bind (wpAny_field ho hd (x := .str x t) rfl ?_)
  show wpAny _ _ (field (.ref it) 1 >>= _) _ _ s
  refine wpAny_bind (wpAny_field ho hd (x := .int i 0) rfl ?_)
  simp only [Int.toNat_natCast, hx]
  refine wpAny_bind (wpAny_rule (wpAny_bind (wpAny_setField ho hd (by simp) (wpAny_bind (wpAny_letGo ?_)))))
  generalize hu : s.heap.update it (Obj.mapFields (fun vs => vs.setIfInBounds 0 Value.none)) = hp
  have k0 : ∀ b ob, b ≠ it → s.heap.get? b = some ob → hp.get? b = some ob := fun b ob hb e => by
    rw [← hu, Heap.get?_update_other _ _ (Ne.symm hb)]; exact e
  have h1' : hp.get? x1 = some o1 := k0 _ _ (Ne.symm hne) h1
  show wpAny _ _ (newExc (.type "StopIteration") [] >>= _) _ _ _
  refine wpAny_bind ?_
  simp only [newExc, newTuple]
  refine wpAny_bind (wpAny_newObj_type ?_ (by size_fits))
  refine wpAny_bind (m := firstArgMember _ _) (wpAny_of_eq (a := Value.none) (by first | rfl | (simp only [firstArgMember]; rfl)) ?_)
  refine wpAny_newObj_type ?_ (by size_fits)
  refine HotX.raiseNew_hot ⟨hh, o1, vs1, Heap.get?_push_of_some _ (Heap.get?_push_of_some _ h1'), d1, c1⟩ (Nat.ne_of_lt (Heap.lt_size (Heap.get?_push_of_some _ h1'))) (Heap.get?_push_size _ rfl) rfl (by first | (simp; done) | (simp; omega) | (simp only [Array.size_append]; simp; omega)) ?_
  refine wpAny_bind (wpAny_isInstance (T := "StopIteration") (b := true) ⟨_, Heap.get?_update_self _ (Heap.get?_push_size _ rfl) rfl, rfl⟩ isSubtype_stop ?_)
  refine wpAny_pure (hQ _ fun b ob hb e => ?_)
  have e' := k0 b ob hb e
  rw [Heap.get?_update_other _ _ (Nat.ne_of_gt (Heap.lt_size (Heap.get?_push_of_some _ e')))]
  exact Heap.get?_push_of_some _ (Heap.get?_push_of_some _ e')
end
/-- what walking a text needs there -/
def TextIt (X : Cx) (pins : List (Addr × Obj)) (σ : L2.St) (R : It → Hp → Prop) (itv : Value) (s2 : Shared) : Prop :=
  ∃ (it : Addr) (x : Str) (t : Tok) (H' : Hp), itv = .ref it ∧ Inv X pins σ H' s2 ∧ s2.heap.IsStrIter it "str_ascii_iterator" x t 0 ∧ FpOk X pins H' it ∧ R (Its x) H'
structure PIT (X : Cx) (iter : Expr) (wi : TI) : Prop where
  run : ∀ (pins : List (Addr × Obj)) (s : Shared) (σ : L2.St) (H : Hp) (R : It → Hp → Prop), Inv X pins σ H s → wi σ H R →
    wpAny (model X.prog X.w) X.A (eval iter X.env) (fun v s1 => wpAny (model X.prog X.w) X.A (pyIter v) (TextIt X pins σ R) X.xe s1) X.xe s
theorem PIT.weak {X : Cx} {iter : Expr} {wi wi' : TI} (h : PIT X iter wi) (hw : ∀ σ H R, wi' σ H R → wi σ H R) : PIT X iter wi' := ⟨fun pins s σ H R I q => h.run pins s σ H R I (hw σ H R q)⟩
theorem pit_str {X : Cx} {e : Expr} {te : TE} (he : PE X e te) : PIT X e (fun σ H R => te σ H fun v H1 => ∃ x : Str, v = .str x ∧ x.cps.all (· < 128) = true ∧ R (Its x) H1) := by
  refine ⟨fun pins s σ H R I h => ?_⟩
  refine thn (he.run pins s σ H _ I h) fun v s1 ⟨y, H1, I1, r1, x, ex, ha, q⟩ => ?_
  subst ex
  obtain ⟨t, rfl⟩ := r1
  refine wpAny_pyIter_ascii ha ⟨s1.heap.objs.size, x, t, H1, rfl, I1.kept fun b ob e => Heap.get?_push_of_some _ e, ⟨_, Heap.get?_push_size _ rfl, rfl, rfl⟩, ?_, q⟩
  exact I1.fpOk (Nat.le_refl _) (I1.hok.fresh (Nat.le_refl _))
section
variable {X : Cx} {elt tg iter : Expr} {ifs : List Expr} {scope : Scope} {own : List (Str × Nat)} {pos : Pos} {wi : TI} {g : TG} {tt : TT} {te : TE}
theorem pe_lcT (hot : HotB X.base X.A) (hN : X.N.Nodup) (hi : PIT X iter wi) (ok : BlkOk X.N X.env.scope scope own)
    (hg : ∀ (s : Shared) (H : Hp) (C : Addr) (cl : List (Str × Addr)) (fp : List Addr), PG (X.blk s H scope (compEnvC scope cl C X.env) fp) tg g) (ht : ∀ (s : Shared) (H : Hp) (C : Addr) (cl : List (Str × Addr)) (fp : List Addr), PTs (X.blk s H scope (compEnvC scope cl C X.env) fp) ifs tt)
    (he : ∀ (s : Shared) (H : Hp) (C : Addr) (cl : List (Str × Addr)) (fp : List Addr), PE (X.blk s H scope (compEnvC scope cl C X.env) fp) elt te) (hs : ∀ x, foldedSetIterable iter X.env x = pure x := by intro _; rfl) :
    PE X (.ListComp elt [⟨tg, iter, ifs, 0⟩] scope pos) (tLc wi g tt te (own.map (·.2))) := by
  refine ⟨fun pins s σ H Q I h => ?_⟩
  rw [eval_ListComp]
  have free_ok : ∀ y ∈ scope.names, y.2 = .free → ∃ c, X.env.cells.lookup y.1 = some c := fun y hy e =>
    (ok.free y hy e).elim (fun k => I.ok.has _ (.inl k)) fun k => I.ok.has _ (.inr k)
  refine wpAny_comprehension_free (use := none) rfl hs (closure_ok free_ok) ok.kind (fun y hy e => by rw [ok.uniq y hy, e])
    (thn (hi.run pins s σ H _ I h) fun xv s1 hx => thn hx fun itv s2 h2 => ?_)
  obtain ⟨it, x, t, H2, rfl, I2, st2, f2, q⟩ := h2
  refine wpAny_newObj_type (newEnv_comp ?_) (by show 0 ≤ sizeLine; decide)
  generalize hD : s2.heap.objs.size = D
  have hDn : H2 D = none := I2.hok.fresh (Nat.le_of_eq hD)
  obtain ⟨W, ⟨m0, w0⟩, turn⟩ := q D hDn
  have hlt : it < s2.heap.objs.size := by
    obtain ⟨o, e, _⟩ := st2
    exact Heap.lt_size e
  -- the list that is made
  generalize hs3 : ({ s2 with heap := s2.heap.push { cls := .type "list", data := .seq ([] : List Value).toArray } } : Shared) = s3
  have h3 : s3.heap = s2.heap.push { cls := .type "list", data := .seq ([] : List Value).toArray } := by rw [← hs3]
  have I3 : Inv X pins σ (upd H2 D (.lst [])) s3 := by
    rw [← hs3]
    refine I2.laid (t' := s2.toks) (fun b o e => Heap.get?_push_of_some _ e) (Nat.le_of_eq hD) ⟨Nat.zero_le _, [], 0, .nil, ?_⟩
    rw [← hD]
    exact Heap.get?_push_size _ rfl
  have f3 : FpOk X pins (upd H2 D (.lst [])) it ∧ it < s3.heap.objs.size := by
    refine ⟨⟨?_, f2.2⟩, by rw [h3, Heap.size_push]; exact Nat.lt_succ_of_lt hlt⟩
    rw [upd_ne (by rw [← hD]; exact Nat.ne_of_lt hlt)]
    exact f2.1
  have st3 : s3.heap.IsStrIter it "str_ascii_iterator" x t 0 := by
    obtain ⟨o, e, r⟩ := st2
    exact ⟨o, by rw [h3]; exact Heap.get?_push_of_some _ e, r⟩
  have I4 := block_start I3 ok hN (fp := [it]) fun b hb => by
    rw [List.mem_singleton.mp hb]; exact f3
  have pg := hg s3 (upd H2 D (.lst [])) s3.heap.objs.size (cellsFrom (s3.heap.objs.size + 1) scope.names (cloFrom X.env.cells scope.names [])) [it]
  have pt := ht s3 (upd H2 D (.lst [])) s3.heap.objs.size (cellsFrom (s3.heap.objs.size + 1) scope.names (cloFrom X.env.cells scope.names [])) [it]
  have pe := he s3 (upd H2 D (.lst [])) s3.heap.objs.size (cellsFrom (s3.heap.objs.size + 1) scope.names (cloFrom X.env.cells scope.names [])) [it]
  show codeAny _ _ (.compStart (.ListComp elt [⟨tg, iter, ifs, 0⟩] scope pos) 0 (.ref it) (.ref D) (compEnvC scope (cellsFrom (s3.heap.objs.size + 1) scope.names (cloFrom X.env.cells scope.names [])) s3.heap.objs.size X.env)) (compPost (model X.prog X.w) X.A X.xe none (EP X pins σ Q) (.ref D) s3.heap.objs.size) { s3 with heap := pushCells (s3.heap.push { cls := .type "dict", data := .dict #[] }) scope.names }
  generalize hce : compEnvC scope (cellsFrom (s3.heap.objs.size + 1) scope.names (cloFrom X.env.cells scope.names [])) s3.heap.objs.size X.env = ce at I4 pg pt pe ⊢
  have cL : ce.locals = s3.heap.objs.size := by subst hce; rfl
  generalize hH3 : upd H2 D (.lst []) = H3 at I3 I4 pg pt pe w0 f3
  generalize hs4 : ({ s3 with heap := pushCells (s3.heap.push { cls := .type "dict", data := .dict #[] }) scope.names } : Shared) = s4 at I4 ⊢
  have st4 : s4.heap.IsStrIter it "str_ascii_iterator" x t 0 := by
    obtain ⟨o, e, r⟩ := st3
    exact ⟨o, by rw [← hs4]; exact pushCells_keeps _ _ _ _ (Heap.get?_push_of_some _ e), r⟩
  have mem1 : it ∈ [it] := List.mem_singleton.mpr rfl
  have stat : ∀ {σ' : L2.St} {H' : Hp} {s' : Shared}, Inv (X.blk s3 H3 scope ce [it]) [] σ' H' s' → H' it = none → FpOk (X.blk s3 H3 scope ce [it]) [] H' it := fun {σ' H' s'} I' hn =>
    ⟨hn, (I'.ok.exf it mem1).1, I'.ok.exfs it mem1, .inl mem1, fun y c e => (I'.ok.exf it mem1).2 y c e, fun p hp => absurd (show p ∈ ([] : List (Addr × Obj)) ++ [] from hp) (by simp)⟩
  have loop : codeAny (model X.prog X.w) X.A (.compLoop (.ListComp elt [⟨tg, iter, ifs, 0⟩] scope pos) 0 (.ref it) (.ref D) ce) (compPost (model X.prog X.w) X.A X.xe none (EP X pins σ Q) (.ref D) s3.heap.objs.size) s4 := by
    refine compLoop_any (fun n s' => ∃ i H', Inv (X.blk s3 H3 scope ce [it]) [] (wipe σ (own.map (·.2))) H' s' ∧ s'.heap.IsStrIter it "str_ascii_iterator" x t i ∧ H' it = none ∧ W i n H') ?_ m0 ⟨0, H3, I4, st4, f3.1.1, w0⟩
    rintro n s5 ⟨i, H5, I5, st5, n5, w5⟩
    obtain ⟨b0, b1, b2, b3, b4, b5⟩ := stat I5 n5
    rcases turn i n H5 w5 with ⟨stop, qq⟩ | ⟨go, Nx, hNx, step⟩
    · obtain ⟨x1, hx1⟩ := HotB.at (X := X.blk s3 H3 scope ce [it]) hot I5
      have td : wpAny (model X.prog X.w) X.A (pyNext (.ref it)) (fun r s6 => r = none ∧ Inv (X.blk s3 H3 scope ce [it]) [] (wipe σ (own.map (·.2))) H5 s6) (fun _ _ => False) s5 :=
        text_end_hot hx1 st5 (Array.getElem?_eq_none stop) fun h' eb => ⟨rfl, I5.turned (t' := s5.toks) (fun b o hb e => eb b o hb e) b0 b1 b3 b4 b5⟩
      refine thnF td fun r s6 ⟨hr, I6⟩ => ?_
      subst hr
      have I7 : Inv X pins σ H5 s6 := I3.call' (ch := [it]) I6.os I6.base I6.hok I6.bare fun b hb => by
        rw [List.mem_singleton.mp hb]
        exact ⟨f3.1.2.2.2.1, f3.1.2.1, f3.1.2.2.2.2.1, f3.1.2.2.2.2.2⟩
      have nC : H5 s3.heap.objs.size = none := by
        have z : H5 ce.locals = none := I6.free
        rw [cL] at z
        exact z
      obtain ⟨m, hn, _⟩ := I6.loc
      have hn : s6.heap.Ns ce.locals m := hn
      rw [cL] at hn
      obtain ⟨c0, c1, c2, c3, c4, c5⟩ : FpOk X pins H5 s3.heap.objs.size := I3.fpOk (Nat.le_refl _) nC
      exact ⟨m, hn, fun h'' sb => ⟨.ref D, H5, I7.turned (t' := s6.toks) (fun b o hb e => (sb.2 b hb).trans e) c0 c1 c3 c4 c5, rfl, qq⟩⟩
    · have hi' : i < x.cps.size := go
      have ti : wpAny (model X.prog X.w) X.A (pyNext (.ref it)) (fun r s6 => ∃ u, r = some u ∧
          wpAny (model X.prog X.w) X.A (letOwnedTupleGo tg (.ref it) u) (fun _ s7 => ∃ y H7, Inv (X.blk s3 H3 scope ce [it]) [] (wipe σ (own.map (·.2))) H7 s7 ∧ RelV y u ∧ (Its x).yld i H5 y H7 ∧ s7.heap.IsStrIter it "str_ascii_iterator" x t (i + 1) ∧ H7 it = none) (fun _ _ => False) s6) (fun _ _ => False) s5 := by
        refine wpAny_pyNext_ascii_item st5 (c := x.cps[i]) (Array.getElem?_eq_getElem hi') fun h' st' sb => ?_
        have I6 : Inv (X.blk s3 H3 scope ce [it]) [] (wipe σ (own.map (·.2))) H5 { s5 with heap := h', toks := s5.toks + 1 } := I5.turned (fun b o hb e => (sb.2 b hb).trans e) b0 b1 b3 b4 b5
        obtain ⟨o, e, c, d⟩ := id st'
        exact ⟨_, rfl, go_of (s := { s5 with heap := h', toks := s5.toks + 1 }) e c d (by decide) ⟨.str ⟨#[x.cps[i]]⟩, H5, I6, ⟨s5.toks, rfl⟩, ⟨rfl, _, Array.getElem?_eq_getElem hi', rfl⟩, st', n5⟩⟩
      refine thnF ti fun r s6 ⟨u, hr, h6⟩ => ?_
      subst hr
      refine thnF h6 fun _ s7 ⟨y, H7, I7, r7, y7, st7, n7⟩ => ?_
      have hob : ∀ b ∈ [it], ∃ o, s7.heap.get? b = some o ∧ ∀ v, o.data ≠ .cell v := fun b hb => by
        obtain ⟨o, e, c, d⟩ := st7
        exact ⟨o, by rw [List.mem_singleton.mp hb]; exact e, fun v z => by rw [d] at z; cases z⟩
      have I7' := I7.pinned (fun b hb => by rw [List.mem_singleton.mp hb]; exact stat I7 n7) hob
      refine thnF (pg.run _ s7 _ H7 y u _ I7' r7 (step y H7 y7)) fun _ s8 ⟨σ8, H8, I8, hw8, q8⟩ => ?_
      refine thnF (pt.run _ s8 σ8 H8 _ I8 q8) fun b s9 ⟨H9, I9, q9⟩ => ?_
      -- the turn's end
      have fin : ∀ {s' : Shared} {H' : Hp}, Inv (X.blk s3 H3 scope ce [it]) ([] ++ pinsAt [it] s7.heap) σ8 H' s' → Nx H' → ∃ m, m < n ∧ ∃ i H', Inv (X.blk s3 H3 scope ce [it]) [] (wipe σ (own.map (·.2))) H' s' ∧ s'.heap.IsStrIter it "str_ascii_iterator" x t i ∧ H' it = none ∧ W i m H' := fun {s' H'} I' nx => by
        obtain ⟨m', hm, w'⟩ := hNx H' nx
        obtain ⟨o, e, rest⟩ := st7
        have z := I'.pin (it, o) (List.mem_append_right _ (List.mem_append_right _ (mem_pinsAt mem1 e)))
        have hl : (wipe σ (own.map (·.2))).length = σ8.length := by rw [← hw8, wipe_length]
        refine ⟨m', hm, i + 1, H', (I'.unpinned (pins := [])).weak hl (fun j v e => ?_), ⟨o, z.1, rest⟩, z.2.1, w'⟩
        rw [← hw8] at e
        exact (wipe_some e).1
      cases b with
      | false =>
        simp only [Bool.false_eq_true, if_false] at q9 ⊢
        exact fin I9 q9
      | true =>
        simp only [if_true] at q9 ⊢
        refine thnF (pe.run _ s9 σ8 H9 _ I9 q9) fun z s10 ⟨yv, H10, I10, r10, acc, hD10, hz10, nx⟩ => ?_
        exact app_ok (X := X.blk s3 H3 scope ce [it]) I10 hD10 hz10 r10 fun s11 I11 => fin I11 nx
  refine codeAny_compStart_list loop ?_
  exact wpAny_pyIter_striter_ascii st4 loop
end
end Br
end
section
namespace Br
open PySem PySem.Spec PyProof.Rows L2
/-! ### defs that run while an exception is handled -/
/-- the signs of a text of plain signs -/
def wIsA (f : FE) : En → Mem → R Wk := fun ρ M => (f ρ M).bind fun d M1 => match d with
  | .str z => if z.cps.all (· < 128) = true then .ok (.items (charsD z)) M1 else .no
  | _ => .no
section
variable {X : Cx} {W : WX} {elt tg iter e : Expr} {f : FE} {ifs : List Expr} {scope : Scope} {own : List (Str × Nat)} {pos : Pos} {fw : En → Mem → R Wk} {gg : FG} {tt : FT} {te : FE} {g : TG}
theorem mit_str (he : ME X W e f) : PIT X e (tM X.K (WkR X.K) W (wIsA f)) := by
  refine PIT.weak (pit_str he) fun σ H R h => ?_
  refine tM.mono (fun v H1 ⟨μ, M, ρ, d, r, e, q, a1⟩ => ?_) (tM.seq (rel := DV X.K) h)
  split at a1
  · rename_i z
    split at a1
    · rename_i hz
      exact ⟨z, str_dv q, hz, a1 μ H1 _ (Lift.refl ..) r (wk_str z)⟩
    · exact a1.elim
  · exact a1.elim
theorem me_lcT (hot : HotB X.base X.A) (hN : X.N.Nodup) (ok : BlkOk X.N X.env.scope scope own) (hok : OwnG X.K g gg (own.map (·.2))) (hi : PIT X iter (tM X.K (WkR X.K) W fw))
    (hg : ∀ (s : Shared) (H : Hp) (C : Addr) (cl : List (Str × Addr)) (fp : List Addr), PG (X.blk s H scope (compEnvC scope cl C X.env) fp) tg g) (ht : ∀ (s : Shared) (H : Hp) (C : Addr) (cl : List (Str × Addr)) (fp : List Addr), MTs (X.blk s H scope (compEnvC scope cl C X.env) fp) WF ifs tt)
    (he : ∀ (s : Shared) (H : Hp) (C : Addr) (cl : List (Str × Addr)) (fp : List Addr), ME (X.blk s H scope (compEnvC scope cl C X.env) fp) WF elt te) (hs : ∀ x, foldedSetIterable iter X.env x = pure x := by intro _; rfl) :
    ME X W (.ListComp elt [⟨tg, iter, ifs, 0⟩] scope pos) (eLcV (own.map (·.2)) fw gg tt te) := by
  refine PE.weak (PE.lock (pe_lcT (tt := tM X.K BV WF tt) (te := tM X.K (DV X.K) WF te) hot hN hi ok hg ht he hs)) fun σ H Q h => ?_
  refine lc_full (Q := Q) hok h fun μ M H1 dl acc M' μ' H' accV E hdl a l r' ho hd dq => ⟨dl, accV, rfl, hd, fun o => ?_⟩
  refine a μ' _ _ (l.poke hdl (Kp.lst hd)) (r'.poke (Kp.lst hd) ho) ?_
  unfold DV
  exact ⟨dl, accV, rfl, .inl ⟨o, upd_same⟩, DVs.kp (Kp.lst hd) _ _ dq⟩
end
theorem hu64H {A : Around} {k : Nat} (hr : L2H.RoomH k A) : A.units + 64 < cLine := by have := hr.un; omega
theorem hu65H {A : Around} {k : Nat} (hr : L2H.RoomH k A) : A.units + 65 < cLine := by have := hr.un; omega
theorem hu128H {A : Around} {k : Nat} (hr : L2H.RoomH k A) : A.units + 128 < cLine := by have := hr.un; omega
/-- a def's promise in a room where an exception is handled -/
structure FnMB (P : Program) (w : World) (K : PySem.W.Frag) (mg : Str → Option Value) (base : Heap) (k : Nat) (f : Addr) (fd : FuncData) (ps : List Str) (m : FL) : Prop where
  run : ∀ (A : Around) (outer : List Env) (s : Shared) (H : Hp) (args : Args) (Q : VK) (E : XK) (G : List V → Hp → Prop), L2H.RoomH k A → HotB base A → A.guards = some [] → Env0 P w K mg base A outer s H →
    StX.Bnd (L2N.CX P w) P w K mg base fd args ps A outer s H E G → (∀ vs H2, G vs H2 → sM K m E Q vs H2) → codeAny (model P w) A (.call (.ref f) args) (CR (L2N.CX P w) outer P w H s Q E) s
theorem notFrame {B h : Heap} : ∀ {es : List Env} {a : Addr} {o : Obj}, h.FunFrames B es → B.get? a = some o → a ∉ frs es := fun {es a o} hf ha hm => by
  obtain ⟨hn, _⟩ := hf.mem hm
  rw [ha] at hn
  cases hn
theorem fnMB_of {P : Program} {w : World} {K : PySem.W.Frag} {mg : Str → Option Value} {base : Heap} {k : Nat} {f : Addr} {fd : FuncData} {x qual : Str} {params : Arguments} {body : List Stmt} {scope : Scope} {dvs : List V} {kws : List (Str × V)} {N ps : List Str} {b : FStm}
    (F : FunD K x qual params body scope dvs kws f fd) (S : FnScope N ps scope)
    (hb : ∀ (cdv : Value) (A : Around) (outer : List Env) (s : Shared) (H : Hp) (E : XK) (p : Addr × Obj), L2H.RoomH k (A.deeper (envOfC qual scope s.heap.objs.size f cdv)) → HotB base A → A.guards = some [] →
      MSs (L2H.cxH (L2N.CX P w) P w K mg base N qual scope f cdv A outer s H E p) (fun c d _ H' => E c d H') body b) : FnMB P w K mg base (k + 1) f fd ps (run b N.length) := by
  obtain ⟨oc, od, dV, kV, doc, pm, an, cdv, ct, osl, rfl, lk, hcd, _, _⟩ := F.ex
  refine ⟨fun A outer s H args Q E G hr hot hg e0 hbnd hsp => ?_⟩
  have KX : K.In s.heap := e0.mod.kin.keeps fun b o e => (e0.bs b o e).1
  refine codeAny_call_function hr.depth (KX _ _ lk) rfl S.co S.gen rfl (PySem.W.codeRec_of KX hcd) ?_
  refine hbnd _ _ _ fun s2 H2 vs us e2 un ho hx r hl hgv => ?_
  have lim : s2.heap.NoLimit := e0.mod.nolimit.keeps fun b o e => (e2.bs b o e).1
  have hkind : ∀ y ∈ ps.zip us, scope.names.lookup y.1 = some .local ∨ (scope.names.lookup y.1 = some .cell ∧ ((cellsFrom (s2.heap.objs.size + 1) scope.names []).lookup y.1).isSome = true) := fun y hy => by
    rcases S.par y.1 (List.of_mem_zip hy).1 with q | q
    · exact .inl q
    · exact .inr ⟨q, PySem.W.cellsFrom_some _ _ _ (.inl q)⟩
  refine wpAny_newFunctionEnv_cells (s := s2) S.kind hkind fun env he s1 x => ?_
  subst he
  refine ⟨lim.keeps x.toInCall.keep, codeAny_func ?_⟩
  obtain ⟨xa, xo, xv, y1, y2, y3, y4⟩ := id hot
  have hpin : L2H.PinOk outer H2 s2 (xa, xo) := ⟨(e2.bs xa xo y2).1, (e2.bs xa xo y2).2, notFrame e2.funs y2, fun v z => by
    have z' : xo.data = .cell v := z
    rw [y3] at z'; cases z'⟩
  have I : Inv (L2H.cxH (L2N.CX P w) P w K mg base N qual scope f cdv A outer s2 H2 E (xa, xo)) [] (L2.start N vs) H2 s1 := L2H.inv_startH S hpin e2 hl r x
  have ht := hb cdv A outer s2 H2 E (xa, xo) (hr.deeper _) hot hg
  have hq : tSt K (fun c d (_ : L2.St) H' => E c d H') b { nx := fun _ H' => Q .non H', rt := Q } (L2.start N vs) H2 := by
    obtain ⟨μ, M, ds, r, q, a⟩ := hsp vs H2 hgv
    refine ⟨μ, M, _, r, ev_start N q, ?_⟩
    unfold run at a
    cases hg : b (st0 N.length ds) M with
    | go fl ρ' M' =>
      rw [hg] at a
      cases fl with
      | nx => exact fun μ' H' σ' l r' e' => a μ' H' .non l r' (by unfold DV; rfl)
      | ret d => exact a
      | bk => exact a.elim
      | ct => exact a.elim
    | ex e ρ' M' => rw [hg] at a; exact fun μ' H' σ' c d l r' e' x => a μ' H' c d l r' x
    | no => rw [hg] at a; exact a
  refine wpAny_mono (ht.run [] s1 _ _ _ I hq) (fun fl s' hs => ?_) fun e s' hs => ?_
  · have fin : ∀ {σ' : L2.St} {H' : Hp} {v' : V} {u' : Value}, Inv (L2H.cxH (L2N.CX P w) P w K mg base N qual scope f cdv A outer s2 H2 E (xa, xo)) [] σ' H' s' → RelV v' u' → Q v' H' → CE outer P w H s Q u' s' :=
      fun {σ' H' v' u'} J rv' q => ⟨v', H', J.os.trans ho, J.bare, un.trans J.base, J.hok, rv', q⟩
    cases fl with
    | ret u' =>
      obtain ⟨v', σ', H', J, rv', q⟩ := hs
      exact fin J rv' q
    | next =>
      obtain ⟨σ', H', J, q⟩ := hs
      exact fin (v' := V.non) (u' := Value.none) J rfl q
    | brk =>
      obtain ⟨_, _, _, q⟩ := hs
      exact False.elim q
    | cont =>
      obtain ⟨_, _, _, q⟩ := hs
      exact False.elim q
  · exact wpAny_mono hs (fun _ s'' z => hx e s'' z) fun e' s'' z => hx e' s'' z
end Br
end
section
namespace Br
open PySem PySem.Spec PyProof.Rows L2
/-! ### a caught exception, handed to a def that asks for its class -/
theorem has_obj {P : Program} {w : World} {H : Hp} {h : Heap} {a : Addr} {o : HO} (x : ObjOk P w H h a o) : ∃ ob, h.get? a = some ob := by
  cases o with
  | lst xs => obtain ⟨_, its, n, _, e⟩ := x; exact ⟨_, e⟩
  | tup xs => obtain ⟨_, its, _, o, e, _⟩ := x; exact ⟨_, e⟩
  | dK kvs => obtain ⟨_, _, vs, _, o, _, _, e, _⟩ := x; exact ⟨_, e⟩
  | dT kvs => obtain ⟨_, _, xs, _, o, _, _, e, _⟩ := x; exact ⟨_, e⟩
  | set S n => obtain ⟨o, _, _, _, e, _⟩ := x; exact ⟨_, e⟩
  | ins C dx fs => obtain ⟨_, _, _, e, _⟩ := x; exact ⟨_, e⟩
  | own y => exact x
  | xd fs => obtain ⟨_, ⟨_, _, _, e, _⟩, _⟩ := x; exact ⟨_, e⟩
  | rng lo hi => obtain ⟨_, _, _, e⟩ := x; exact ⟨_, e⟩
  | frz ob u => exact ⟨_, x.1⟩
  | tbl ps => exact ⟨_, x⟩
  | met f y => exact ⟨_, x⟩
  | ext φ => exact x.2.1
/-- the object at a is an exception of the class c, its dict at dd, and it stands -/
def ExcIn (K : PySem.W.Frag) (base : Heap) (a dd : Addr) (c : Str) : Prop := ∃ (oe : Obj) (vs : Array Value), base.get? a = some oe ∧ oe.cls = .ref (He.ga K c) ∧ oe.dict = some dd ∧ oe.data = .fields vs
/-- what the class must say, so that isinstance asks its instances rightly -/
structure ExcT (K : PySem.W.Frag) (C : Addr) : Prop where
  cl : (PySem.W.clsIn K C).isSome = true
  hga : PySem.W.findIn K (.ref C) "__getattribute__" = some (some (.builtin "BaseException.__getattribute__"))
  hgt : PySem.W.findIn K (.ref C) "__getattr__" = some none
  hsub : PySem.W.subIn K (.ref C) (.type "BaseException") = some true
  ha : PySem.W.findIn K (.ref C) "__class__" = some (some (.builtin "object.__class__"))
  hn : PySem.W.specialIn K (.builtin "object.__class__") "__get__" = some (some (.builtin "getset_descriptor.__get__"))
  ht : PySem.W.takesIn K (.builtin "object.__class__") = some true
  hm : PySem.W.mroIn K C (.type "object") = some true
/-- isinstance of the exception: own classes, built-in ones -/
def gIsiE (a dd : Addr) (own : List (Str × Bool)) (bt : List (String × Bool)) : FL := fun ds M => match ds with
  | [.adr b d2, .gl g] => if b = a ∧ d2 = dd then (match own.lookup g with
    | some k => .ok (.bl k) M
    | none => .no) else .no
  | [.adr b d2, .ty t] => if b = a ∧ d2 = dd then (match bt.lookup t with
    | some k => .ok (.bl k) M
    | none => .no) else .no
  | ds => gIsi ds M
structure ExcQ (K : PySem.W.Frag) (C : Addr) (own : List (Str × Bool)) (bt : List (String × Bool)) : Prop where
  own : ∀ g k, own.lookup g = some k → PySem.W.kitOne K (.ref C) (.ref (He.ga K g)) = some k
  bt : ∀ t k, bt.lookup t = some k → PySem.W.kitOne K (.ref C) (.type t) = some k
section
variable {X : Cx}
theorem cm_isiE {a dd : Addr} {c : Str} {own : List (Str × Bool)} {bt : List (String × Bool)} (hx : ExcIn X.K X.base a dd c) (T : ExcT X.K (He.ga X.K c)) (hq : ExcQ X.K (He.ga X.K c) own bt) : CallM X (.builtin "isinstance") (gIsiE a dd own bt) := by
  intro W pins s σ H xs us Q I rv ⟨μ, M, as, r, q, an⟩
  obtain ⟨oe, vs, h1, h2, h3, h4⟩ := hx
  have fin : ∀ {cv : Value} {k : Bool}, (∃ u, H dd = some u) → PySem.W.kitOne X.K (.ref (He.ga X.K c)) cv = some k → (∀ tk, EP X pins σ Q (.bool k) { s with toks := tk }) → wpAny (model X.prog X.w) X.A (call (.builtin "isinstance") [.ref a, cv]) (EP X pins σ Q) X.xe s := fun {cv k} hu e hQ => by
    obtain ⟨u, hu⟩ := hu
    obtain ⟨od, hod⟩ := has_obj (I.hok dd u hu)
    have J : PySem.W.InstAt s.heap a oe (He.ga X.K c) (some od) := ⟨I.bk a oe h1, h2, by unfold PySem.W.notCls; rw [h4], by rw [h3]; exact hod⟩
    exact PySem.W.kia_one (PySem.W.kitx_exc T.cl T.hga T.hgt T.hsub T.ha T.hn T.ht T.hm) I.kIn J e (fun z => nomatch z) hQ
  unfold gIsiE at an
  split at an
  · rename_i b d2 g
    split at an
    · rename_i hb
      obtain ⟨rfl, rfl⟩ := hb
      split at an
      · rename_i k hk
        obtain ⟨v, r', e, q1, q2⟩ := q.inv_cons
        obtain ⟨v2, r2, e2, q3, q4⟩ := q2.inv_cons
        have q1' : v = .ref b ∧ ∃ u, H d2 = some u := by unfold DV at q1; exact q1
        rw [e, e2, q4.inv_nil, gl_dv q3, q1'.1] at rv
        obtain ⟨u1, u2, rfl, ru1, ru2⟩ := vals2 rv
        obtain rfl : u1 = Value.ref b := ru1
        obtain rfl : u2 = Value.ref (He.ga X.K g) := ru2
        exact fin q1'.2 (hq.own g k hk) fun tk => ⟨.bl k, H, I.tok tk, rfl, ans_pure r dv_bl an⟩
      · exact an.elim
    · exact an.elim
  · rename_i b d2 t
    split at an
    · rename_i hb
      obtain ⟨rfl, rfl⟩ := hb
      split at an
      · rename_i k hk
        obtain ⟨v, r', e, q1, q2⟩ := q.inv_cons
        obtain ⟨v2, r2, e2, q3, q4⟩ := q2.inv_cons
        have q1' : v = .ref b ∧ ∃ u, H d2 = some u := by unfold DV at q1; exact q1
        rw [e, e2, q4.inv_nil, ty_dv q3, q1'.1] at rv
        obtain ⟨u1, u2, rfl, ru1, ru2⟩ := vals2 rv
        obtain rfl : u1 = Value.ref b := ru1
        have ru2' : u2 = Value.type t := ru2
        subst ru2'
        exact fin q1'.2 (hq.bt t k hk) fun tk => ⟨.bl k, H, I.tok tk, rfl, ans_pure r dv_bl an⟩
      · exact an.elim
    · exact an.elim
  · exact cm_isi W pins s σ H xs us Q I rv ⟨μ, M, _, r, q, an⟩
end
theorem base_plus {base : Heap} {a : Addr} {oe : Obj} {vs : Array Value} {n : Nat} (hd : oe.data = .fields vs) (hn : base.objs.size ≤ n) (ha : a < n) (hc : ∀ o, base.get? a = some o → o = oe) :
    ∃ b' : Heap, (∀ b o, base.get? b = some o → b'.get? b = some o) ∧ b'.get? a = some oe ∧ (∀ b o, b'.get? b = some o → base.get? b = some o ∨ (b = a ∧ o = oe)) ∧ b'.objs.size ≤ n := by
  let fo : Obj := { cls := .none, data := .freed }
  let pad : Array Obj := base.objs ++ Array.replicate (n - base.objs.size) fo
  have hps : pad.size = n := by simp [pad]; omega
  let b' : Heap := { base with objs := pad.setIfInBounds a oe }
  have hat : b'.objs[a]? = some oe := by
    show (pad.setIfInBounds a oe)[a]? = some oe
    rw [Array.getElem?_setIfInBounds_self_of_lt (by rw [hps]; exact ha)]
  have hne : ∀ b, b ≠ a → b'.objs[b]? = pad[b]? := fun b h => by
    show (pad.setIfInBounds a oe)[b]? = pad[b]?
    rw [Array.getElem?_setIfInBounds_ne (Ne.symm h)]
  have hga : b'.get? a = some oe := by
    unfold Heap.get?
    rw [hat]
    obtain ⟨c, d, dt, sl⟩ := oe
    simp only at hd
    subst hd
    rfl
  have hpad : ∀ b, b ≠ a → b'.get? b = base.get? b := fun b h => by
    unfold Heap.get?
    rw [hne b h]
    by_cases hb : b < base.objs.size
    · have : pad[b]? = base.objs[b]? := by
        show (base.objs ++ Array.replicate (n - base.objs.size) fo)[b]? = _
        rw [Array.getElem?_append_left hb]
      rw [this]
    · have h0 : base.objs[b]? = none := Array.getElem?_eq_none (Nat.le_of_not_lt hb)
      rw [h0]
      have h1 : pad[b]? = none ∨ pad[b]? = some fo := by
        show (base.objs ++ Array.replicate (n - base.objs.size) fo)[b]? = none ∨ _
        rw [Array.getElem?_append_right (Nat.le_of_not_lt hb)]
        rw [Array.getElem?_replicate]
        split
        · exact .inr rfl
        · exact .inl rfl
      rcases h1 with h1 | h1 <;> rw [h1]
  refine ⟨b', fun b o e => ?_, hga, fun b o e => ?_, by show (pad.setIfInBounds a oe).size ≤ n; rw [Array.size_setIfInBounds, hps]; exact Nat.le_refl _⟩
  · by_cases h : b = a
    · subst h; rw [hga, hc o e]
    · rw [hpad b h]; exact e
  · by_cases h : b = a
    · subst h; rw [hga] at e; cases e; exact .inr ⟨rfl, rfl⟩
    · rw [hpad b h] at e; exact .inl e
theorem Env0.plus {P : Program} {w : World} {K : PySem.W.Frag} {mg : Str → Option Value} {base b' : Heap} {A : Around} {outer : List Env} {s : Shared} {H : Hp} {a : Addr} {oe : Obj} {vs : Array Value} (e0 : Env0 P w K mg base A outer s H)
    (hd : oe.data = .fields vs) (h1 : ∀ b o, base.get? b = some o → b'.get? b = some o) (h2 : ∀ b o, b'.get? b = some o → base.get? b = some o ∨ (b = a ∧ o = oe)) (h3 : b'.objs.size ≤ s.heap.objs.size) (ha : s.heap.get? a = some oe) (hH : H a = none) : Env0 P w K mg b' A outer s H := by
  obtain ⟨mb, k1, k2⟩ := e0.mod.blt
  obtain ⟨mc, k3, k4⟩ := e0.mod.nolimit
  refine ⟨e0.frames, ⟨e0.mod.kin.keeps h1, e0.mod.glob.keeps h1, ⟨mb, k1.keeps h1, k2⟩, ⟨mc, k3.keeps h1, k4⟩⟩, fun b o e => ?_, h3, ?_, e0.frf, e0.hok, e0.bare⟩
  · rcases h2 b o e with h | ⟨rfl, rfl⟩
    · exact e0.bs b o h
    · exact ⟨ha, hH⟩
  · have key : ∀ l : List Env, s.heap.FunFrames base l → s.heap.FunFrames b' l := by
      intro l
      induction l with
      | nil => intro _; trivial
      | cons env rest ih =>
        rintro ⟨hk, ⟨L, o, hf, hn, ho, hdd⟩, hr⟩
        refine ⟨hk, ⟨L, o, hf, ?_, ho, hdd⟩, ih hr⟩
        cases hb : b'.get? L with
        | none => rfl
        | some o2 =>
          rcases h2 L o2 hb with h | ⟨rfl, rfl⟩
          · rw [hn] at h; cases h
          · rw [ha] at ho; cases ho
            exact absurd hd (hdd vs)
    exact key _ e0.funs
end Br
end
section
namespace Br
open PySem PySem.Spec PyProof.Rows L2
/-! ### try: body / except C as n: return n.f if g(n) == "C" else .. -/
/-- a def that is asked for the class of a caught exception -/
structure KindOk (X : Cx) (c : Str) (kn : Str) (KF : Addr → Addr → FL) : Prop where
  ex : ∃ (fa : Addr) (fd : FuncData) (p : Str) (k : Nat), X.mg kn = some (.ref fa) ∧ PySem.W.keepIn X.K (.ref fa) = true ∧ L2H.RoomH k X.A ∧
    (∀ (a dd : Addr) (b' : Heap), ExcIn X.K b' a dd c → Mod X.K X.mg b' → FnMB X.prog X.w X.K X.mg b' k fa fd [p] (KF a dd)) ∧ (∀ b' : Heap, AB X.prog X.w X.K X.mg b' fd [p] 1 [] (fun ds _ => ds))
section
variable {X : Cx}
def fKind (a dd : Addr) (i : Nat) (KF : Addr → Addr → FL) : FE := fun ρ M => match ρ[i]? with
  | some (some (.adr b d2)) => if b = a ∧ d2 = dd then KF a dd [.adr a dd] M else .no
  | _ => .no
theorem me_kind {W : WX} {a dd : Addr} {oe : Obj} {vs0 : Array Value} {c kn n : Str} {i : Nat} {KF : Addr → Addr → FL} {p p1 pos : Pos} (hp : (a, oe) ∈ X.pn) (h2 : oe.cls = .ref (He.ga X.K c)) (h3 : oe.dict = some dd) (h4 : oe.data = .fields vs0) (h5 : vs0[2]? = some .none) (h6 : X.A.handled = some (.ref a))
    (hk : KindOk X c kn KF) (hgd : X.A.guards = some []) (tk : L2N.Takes X W) (hg : Gl X kn) (hi : X.N[i]? = some n) (hv : Vis X.env.scope n) (hnd : (n == ("__debug__" : Str)) = false) (hncd : (n == ("__classdict__" : Str)) = false) (hdb : (kn == ("__debug__" : Str)) = false)
    (he : starEach [.Name n p1] X.env = (false, eval (.Name n p1) X.env) :: starEach [] X.env := by rfl) (hpl : (backTo pos (starEach [] X.env)).any (·.1) = false := by rfl) :
    ME X W (.Call (.Name kn p) [.Name n p1] [] pos) (fKind a dd i KF) := by
  obtain ⟨fa, fd, pn, k, hm, hkp, hr, F, hab⟩ := hk.ex
  refine ⟨fun pins s σ H Q I ⟨μ, M, ρ, r1, e1, an⟩ => ?_⟩
  unfold fKind at an
  split at an
  · rename_i b d2 hρ
    split at an
    · rename_i hb
      obtain ⟨rfl, rfl⟩ := hb
      obtain ⟨v, hσ, hv0⟩ := e1.at_ i _ hρ
      have hv1 : v = .ref b ∧ ∃ u, H d2 = some u := by unfold DV at hv0; exact hv0
      obtain ⟨rfl, hu⟩ := hv1
      refine wpAny_Call_Name_kw (ld_glob I hg hm ?_ hdb)
      refine PySem.W.callWith_K (h₀ := X.base) I.ok.mod.kin hkp (thn ((pa_cons (pe_var hi hv hnd hncd) pa_nil he).run pos pins s σ H (fun vs H1 => vs = [.ref b] ∧ H1 = H) I ⟨_, hσ, rfl, rfl⟩) fun us s1 ⟨vs, H1, I1, r, q⟩ => ⟨I1.kIn, ?_⟩) he hpl
      obtain ⟨rfl, rfl⟩ := q
      obtain ⟨g1, g2, g3, g4, g5⟩ := I1.pin (b, oe) (List.mem_append_left _ hp)
      have e0 := I1.env0
      obtain ⟨b', k1, k2, k3, k4⟩ := base_plus (base := X.base) (a := b) (oe := oe) (n := s1.heap.objs.size) h4 e0.bsz (Heap.lt_size g1) (fun o ho => by
        have := (e0.bs b o ho).1
        have g1' : s1.heap.get? b = some oe := g1
        rw [g1'] at this; cases this; rfl)
      have e2 := Env0.plus e0 h4 k1 k3 k4 g1 g2
      have hx : ExcIn X.K b' b d2 c := ⟨oe, vs0, k2, h2, h3, h4⟩
      have q : DVs X.K μ M.length H1 [.adr b d2] [.ref b] := DVs.cons (by unfold DV; exact ⟨rfl, hu⟩) DVs.nil
      have hbnd := (hab b').bnd X.A X.stack s1 H1 (fun c d H' => W c d σ H') us [] [.ref b] [] μ M [.adr b d2] [] e2 (by rw [← r.length]; rfl) rfl r .nil r1 q DVs.nil
      refine wpAny_call (codeAny_mono ((F b d2 b' hx e2.mod).run X.A X.stack s1 H1 _ Q _ _ hr ⟨b, oe, vs0, h6, k2, h4, h5⟩ hgd e2 hbnd fun v H2 ⟨r2, l, q2⟩ => ⟨μ, M, _, r2, q2, Ans.rebase l an⟩) fun r s' hq => ?_)
      cases r with
      | error e => exact tk e s' (L2N.XE.of_call I1 (fun _ _ _ z => z) hq)
      | ok fl =>
        cases fl with
        | ret u => exact I1.after hq
        | next => exact False.elim hq
        | brk => exact False.elim hq
        | cont => exact False.elim hq
    · exact an.elim
  · exact an.elim
theorem KindOk.suite {c kn : Str} {KF : Addr → Addr → FL} {a : Addr} {pn : List (Addr × Obj)} (hk : KindOk X c kn KF) : KindOk (X.suite a pn) c kn KF := by
  obtain ⟨fa, fd, p, k, h1, h2, h3, h4, h5⟩ := hk.ex
  exact ⟨fa, fd, p, k, h1, h2, ⟨h3.dp, h3.un⟩, h4, h5⟩
/-- what the suite asks for -/
def tKd (K : PySem.W.Frag) (a : Addr) (cls : Value) (d : Option Addr) (C : Addr) (f : Str) (i : Nat) : TE := fun σ H Q => ∃ (μ : Nat → Addr) (M : Mem) (ρ : En) (dd : Addr) (gs : List (Str × V)) (v : V), Rel K μ M H ∧ EV K μ M.length H ρ σ ∧ ρ[i]? = some (some (.adr a dd)) ∧
  cls = .ref C ∧ d = some dd ∧ H dd = some (.xd gs) ∧ gs.lookup f = some v ∧ ∀ μ' H', Lift μ M.length H μ' M.length H' → Rel K μ' M H' → Q v H'
theorem pe_kd {a : Addr} {oe : Obj} {cls : Value} {d : Option Addr} {pn : List (Addr × Obj)} {c kn n f : Str} {i : Nat} {KF : Addr → Addr → FL} {orelse : Expr} {p p1 p2 p3 p4 p5 p8 pos : Pos} {j : Nat}
    (T : XfC X.K (He.ga X.K c)) (hno : PySem.W.findIn X.K (.ref (He.ga X.K c)) f = some none) (hz : L2N.Zn cls d oe) (hf : ∃ vs, oe.data = .fields vs) (hcn : c.length ≤ sizeLine)
    (hk : KindOk X c kn KF) (hK : ∀ a dd M, KF a dd [.adr a dd] M = .ok (.str c) M) (hgd : X.A.guards = some []) (hu : X.A.units + 64 < cLine) (hg : Gl X kn) (hi : X.N[i]? = some n) (hv : Vis X.env.scope n) (hnd : (n == ("__debug__" : Str)) = false) (hncd : (n == ("__classdict__" : Str)) = false) (hdb : (kn == ("__debug__" : Str)) = false)
    (hor : ∃ to, PE (X.suite a ((a, oe) :: pn)) orelse to) (hm : behindInMarks .Eq (.Constant (.str c) j p4) = false := by rfl) :
    PE (X.suite a ((a, oe) :: pn)) (.IfExp (.Compare (.Call (.Name kn p) [.Name n p1] [] p2) [.Eq] [.Constant (.str c) j p4] p5) (.Attribute (.Name n p3) f pos) orelse p8) (tKd X.K a cls d (He.ga X.K c) f i) := by
  obtain ⟨to, ho⟩ := hor
  refine ⟨fun pins s σ H Q I ⟨μ, M, ρ, dd, gs, v, r, e, hρ, h1, h2, h3, h4, hQ⟩ => ?_⟩
  subst h1 h2
  obtain ⟨vs, hd⟩ := hf
  have hmt : MT (X.suite a ((a, oe) :: pn)) (fun _ _ _ _ => False) (.Compare (.Call (.Name kn p) [.Name n p1] [] p2) [.Eq] [.Constant (.str c) j p4] p5) (tC (e2 gEq (fKind a dd i KF) (eC (.str c)))) :=
    mt_cmp (om_eq hu) (me_kind (X := X.suite a ((a, oe) :: pn)) (List.mem_cons_self ..) hz.1 hz.2.1 hd (hz.2.2 _ hd) rfl (KindOk.suite hk) hgd (fun u s' ⟨_, _, _, _, _, _, _, _, _, _, _, _, _, _, _, _, z⟩ => z.elim) hg hi hv hnd hncd hdb) me_str hm
  refine (pe_ifExp hmt (pe_xf (cls := .ref (He.ga X.K c)) (d := some dd) T hno hz.zc ⟨vs, hd⟩ (pe_var (X := X.suite a ((a, oe) :: pn)) hi hv hnd hncd)) ho).run pins s σ H Q I ?_
  refine ⟨μ, M, ρ, r, e, ?_⟩
  have ev : tC (e2 gEq (fKind a dd i KF) (eC (.str c))) ρ M = .ok true M := by
    have : fKind a dd i KF ρ M = .ok (.str c) M := by
      unfold fKind
      rw [hρ]
      dsimp only
      rw [if_pos ⟨rfl, rfl⟩]
      exact hK a dd M
    unfold tC e2
    rw [this]
    show ((gEq (.str c) (.str c) M).bind _) = _
    have e3 : gEq (.str c) (.str c) M = .ok (.bl true) M := by
      unfold gEq eqD
      simp
    rw [e3]; rfl
  rw [ev]
  intro μ' H' b l r' hb
  have hb' : true = b := hb
  subst hb'
  rw [if_pos rfl]
  obtain ⟨w, hσ, hw⟩ := e.at_ i _ hρ
  have hw1 : w = .ref a ∧ ∃ u, H dd = some u := by unfold DV at hw; exact hw
  have hout : ∀ n, n < M.length → μ n ≠ dd := fun n hn hh => by
    have := r.obj n M[n] (List.getElem?_eq_getElem hn)
    rw [hh] at this
    generalize M[n] = o at this
    cases o with
    | lst ds => obtain ⟨xs, e1, _⟩ := this; rw [h3] at e1; cases e1
    | dic kvs => obtain ⟨xs, e1, _⟩ := this; rw [h3] at e1; cases e1
    | ins c fs => obtain ⟨dx, xs, e1, _⟩ := this; rw [h3] at e1; cases e1
  exact ⟨w, hσ, hw1.1, rfl, dd, gs, v, rfl, l.fr dd _ h3 hout, h4, hQ μ' H' l r'⟩
theorem ms_tryK {W : WX} {x n f kn : Str} {i j : Nat} {KF : Addr → Addr → FL} {body : List Stmt} {orelse : Expr} {np p p1 p2 p3 p4 p5 p6 p7 p8 pos pos' : Pos} {g : FStm} (hs : X.stack = X.env :: X.outer) (hf : X.env.frame = some X.env.locals) (hN : X.N.Nodup) (hi : X.N[i]? = some n) (hln : X.env.kindOf n = some .local)
    (hvis : X.env.scope.names.lookup n = some .local) (hnd : (n == ("__debug__" : Str)) = false) (hncd : (n == ("__classdict__" : Str)) = false)
    (hg : Gl X x) (hm : X.mg x = some (.ref (He.ga X.K x))) (hdb : (x == ("__debug__" : Str)) = false) (tk : L2N.Takes X W) (hex : PySem.W.exmOne X.K (.ref (He.ga X.K x)) (.ref (He.ga X.K x)) = some true) (T : XfC X.K (He.ga X.K x)) (hno : PySem.W.findIn X.K (.ref (He.ga X.K x)) f = some none)
    (hk : KindOk X x kn KF) (hK : ∀ a dd M, KF a dd [.adr a dd] M = .ok (.str x) M) (hgd : X.A.guards = some []) (hu : X.A.units + 64 < cLine) (hgk : Gl X kn) (hdbk : (kn == ("__debug__" : Str)) = false) (hcn : x.length ≤ sizeLine)
    (hor : ∀ a oe pn, ∃ to, PE (X.suite a ((a, oe) :: pn)) orelse to) 
    (hb : ∀ (W : WX) (pn : List (Addr × Obj)) (xe : Value → Shared → Prop), L2N.Takes (X.tr pn xe) W → MSs (X.tr pn xe) W body g) (hmk : behindInMarks .Eq (.Constant (.str x) j p4) = false := by rfl) :
    MS X W (.Try body [.ExceptHandler (some (.Name x np)) (some n) [.Return (some (.IfExp (.Compare (.Call (.Name kn p) [.Name n p1] [] p2) [.Eq] [.Constant (.str x) j p4] p5) (.Attribute (.Name n p3) f p6) orelse p8)) p7] pos'] [] [] pos) (sTryF x f i g) := by
  refine PS.weak (L2N.ps_try_as (c := .ref (He.ga X.K x)) (Wout := W) (tb := fun W => tSt X.K W g) (ts := fun a cls d => tRet (tKd X.K a cls d (He.ga X.K x) f i)) hs hf hN hi hln ⟨hg, hdb, .inl hm⟩ tk (fun W pn xe t _ => hb W pn xe t)
    (fun a oe cls d pn hz hv => pss_one (ps_ret (pe_kd T hno hz hv hcn hk hK hgd hu hgk hi (Or.inl hvis) hnd hncd hdbk (hor a oe pn) hmk)))) fun D σ H ⟨μ, M, ρ, r, e, a⟩ => ⟨μ, M, ρ, r, e, ?_⟩
  unfold sTryF at a
  cases hgg : g ρ M with
  | go fl ρ1 M1 => rw [hgg] at a; cases fl <;> exact a
  | no => rw [hgg] at a; exact a.elim
  | ex ex ρ1 M1 =>
    rw [hgg] at a
    obtain ⟨cl, fso⟩ := ex
    cases cl with
    | gl y =>
      cases fso with
      | none => exact a.elim
      | some fs =>
        dsimp only at a
        by_cases hc : y = x ∧ i < ρ1.length
        · rw [if_pos hc] at a
          obtain ⟨hy, hil⟩ := hc
          subst hy
          cases hl : fs.lookup f with
          | none => rw [hl] at a; exact a.elim
          | some d =>
            rw [hl] at a
            intro μ' H' σ' cls dd l r' e' hx
            obtain ⟨h1, ad, gs, h2, h3, h4⟩ := hx
            have h1' : cls = .ref (He.ga X.K y) := h1
            have hk := FV.look (f := f) h4
            rw [hl] at hk
            obtain ⟨v, h5, h6⟩ := hk
            subst h1'
            refine ⟨true, hex, fun _ a0 hn => ?_, fun z => by cases z⟩
            refine ⟨μ', M1, ρ1.set i (some (.adr a0 ad)), ad, gs, v, r', ?_, List.getElem?_set_self hil, rfl, h2, h3, h5, fun μ2 H2 l2 r2 => a μ2 H2 v (l.trans l2) r2 (h6.lift l2)⟩
            exact e'.set (v := .ref a0) (by unfold DV; exact ⟨rfl, _, h3⟩) i
        · rw [if_neg hc] at a; exact a.elim
    | _ => exact a.elim
end
end Br
namespace BrH
open PySem PySem.Spec PyProof.Rows L2 Br He
def excTB (K : PySem.W.Frag) (C : Addr) : Bool := (PySem.W.clsIn K C).isSome && (PySem.W.findIn K (.ref C) "__getattribute__" == some (some (.builtin "BaseException.__getattribute__")) && ((match PySem.W.findIn K (.ref C) "__getattr__" with
    | some none => true
    | _ => false) && (PySem.W.subIn K (.ref C) (.type "BaseException") == some true && (PySem.W.findIn K (.ref C) "__class__" == some (some (.builtin "object.__class__")) && (PySem.W.specialIn K (.builtin "object.__class__") "__get__" == some (some (.builtin "getset_descriptor.__get__")) && (PySem.W.takesIn K (.builtin "object.__class__") == some true && PySem.W.mroIn K C (.type "object") == some true))))))
theorem excTB_ok {K : PySem.W.Frag} {C : Addr} (h : excTB K C = true) : ExcT K C := by
  unfold excTB at h
  simp only [Bool.and_eq_true, beq_iff_eq] at h
  obtain ⟨h1, h2, h3, h4, h5, h6, h7, h8⟩ := h
  refine ⟨h1, h2, ?_, h4, h5, h6, h7, h8⟩
  split at h3
  · rename_i e; exact e
  · cases h3
def excQB (K : PySem.W.Frag) (C : Addr) (own : List (Str × Bool)) (bt : List (String × Bool)) : Bool := (own.all fun q => PySem.W.kitOne K (.ref C) (.ref (He.ga K q.1)) == some q.2) && bt.all fun q => PySem.W.kitOne K (.ref C) (.type q.1) == some q.2
theorem excQB_ok {K : PySem.W.Frag} {C : Addr} {own : List (Str × Bool)} {bt : List (String × Bool)} (h : excQB K C own bt = true) : ExcQ K C own bt := by
  unfold excQB at h
  rw [Bool.and_eq_true] at h
  refine ⟨fun g k hl => ?_, fun t k hl => ?_⟩
  · have : ∀ l : List (Str × Bool), l.lookup g = some k → (g, k) ∈ l := by
      intro l
      induction l with
      | nil => intro h; cases h
      | cons q r ih =>
        intro h
        obtain ⟨a, b⟩ := q
        rw [List.lookup_cons] at h
        split at h
        · rename_i hb
          cases h
          rw [eq_of_beq hb]; simp
        · exact List.mem_cons_of_mem _ (ih h)
    exact beq_iff_eq.mp (List.all_eq_true.mp h.1 _ (this own hl))
  · have : ∀ l : List (String × Bool), l.lookup t = some k → (t, k) ∈ l := by
      intro l
      induction l with
      | nil => intro h; cases h
      | cons q r ih =>
        intro h
        obtain ⟨a, b⟩ := q
        rw [List.lookup_cons] at h
        split at h
        · rename_i hb
          cases h
          rw [eq_of_beq hb]; simp
        · exact List.mem_cons_of_mem _ (ih h)
    exact beq_iff_eq.mp (List.all_eq_true.mp h.2 _ (this bt hl))
end BrH
end
section
namespace Br
open PySem PySem.Spec PyProof.Rows L2
theorem takes0N {X : Cx} : L2N.Takes X (fun _ _ _ _ => False) := fun _ _ ⟨_, _, _, _, _, _, _, _, _, _, _, _, _, _, _, _, w⟩ => w.elim
/-! ### count and index of lists of truth values -/
theorem bl_eqU (b c : Bool) : eqU (.bl b) (Value.bool c) = (c == b) := by
  cases b <;> cases c <;> rfl
theorem bl_rel {c : Bool} {u : Value} (h : RelV (.bl c) u) : u = .bool c := h
theorem flat_bls (bs : List Bool) : (bs.map V.bl).all L2.flatV = true := by
  induction bs with
  | nil => rfl
  | cons b r ih => rw [List.map_cons, List.all_cons, ih]; rfl
theorem count_bls {b : Bool} : ∀ {bs : List Bool} {us : List Value}, Vals (bs.map V.bl) us → us.countP (eqU (.bl b)) = bs.count b
  | [], us, h => by cases h; rfl
  | c :: r, us, h => by
    rw [List.map_cons] at h
    cases h with
    | cons r1 rr =>
      obtain rfl := bl_rel r1
      rw [List.countP_cons, count_bls rr, List.count_cons, bl_eqU]
section
variable {X : Cx} {W : WX} {e o : Expr} {fo : FE} {g : FA} {apos cpos : Pos}
theorem mt_cntB : MtR X "list.count" (fun x xs H Q => ∃ (p : Addr) (bs : List Bool) (b : Bool), x = .ref p ∧ xs = [.bl b] ∧ SqL X.K H p (bs.map V.bl) ∧ Q (.int (bs.count b : Nat)) H) := by
  intro pins s σ H x xs v us Q I rx rxs ⟨p, bs, b, ex, exs, hs, q⟩
  subst ex exs
  obtain rfl : v = Value.ref p := rx
  obtain ⟨u, rfl, ru⟩ := rxs.one
  obtain ⟨its, rv, ⟨⟨cls, dd, data, sl⟩, n, ho, hc, hdn, hd⟩, hlen⟩ := I.list hs
  simp only at hc hd
  subst hc hd
  refine call_meets PySem.F.slot_list_count ⟨_, ho, rfl⟩ PySem.F.entry_list_count (PySem.F.args_list_count_2 _ _)
    (SeqAt.list_countAt p its.toArray n dd sl u (eqU (.bl b))) ⟨ho, fun y hy => mem_eqAt (x := .bl b) ru rfl rv (flat_bls bs) y (by simpa using hy), ?_⟩
  refine ⟨.int (bs.count b : Nat), H, I.tok _, ⟨s.toks, ?_⟩, q⟩
  show Value.int ((its.toArray.toList.countP (eqU (.bl b)) : Nat) : Int) s.toks = Value.int ((bs.count b : Nat) : Int) s.toks
  have : its.toArray.toList = its := by simp
  rw [this, count_bls rv]
theorem mt_idxB : MtR X "list.index" (fun x xs H Q => ∃ (p : Addr) (bs : List Bool) (b : Bool), x = .ref p ∧ xs = [.bl b] ∧ SqL X.K H p (bs.map V.bl) ∧ b ∈ bs ∧ Q (.int (bs.idxOf b : Nat)) H) := by
  intro pins s σ H x xs v us Q I rx rxs ⟨p, bs, b, ex, exs, hs, hb, q⟩
  have hlt : bs.idxOf b < bs.length := List.idxOf_lt_length_of_mem hb
  refine mt_index pins s σ H x xs v us Q I rx rxs ⟨p, bs.map V.bl, .bl b, bs.idxOf b, .bl b, ex, exs, hs, rfl, flat_bls bs, ?_, ?_, fun m z hm hz => ?_, q⟩
  · rw [List.getElem?_map, List.getElem?_eq_getElem hlt, List.getElem_idxOf hlt]; rfl
  · cases b <;> rfl
  · rw [List.getElem?_map] at hz
    obtain ⟨c, hc, rfl⟩ := Option.map_eq_some_iff.mp hz
    obtain ⟨hml, e⟩ := List.getElem?_eq_some_iff.mp hc
    have := List.not_of_lt_findIdx hm
    simp at this
    rw [e] at this
    cases b <;> cases c <;> first | rfl | (exact absurd rfl this) | (simp at this)
def gLCnt : D → List D → Mem → R D := fun x ds M => match (seqL M x).bind blsOf, ds with
  | some bs, [.bl b] => .ok (.int (bs.count b : Nat)) M
  | _, _ => .no
def gLIdx : D → List D → Mem → R D := fun x ds M => match (seqL M x).bind blsOf, ds with
  | some bs, [.bl b] => if b ∈ bs then .ok (.int (bs.idxOf b : Nat)) M else .no
  | _, _ => .no
def eLm (G : D → List D → Mem → R D) (fo : FE) (g : FA) : FE := fun ρ M => (fo ρ M).bind fun x M1 => match seqL M1 x with
  | some _ => (g ρ M1).bind fun ds M2 => G x ds M2
  | none => .no
theorem dv_lift_ref {K : PySem.W.Frag} {μ μ' : Nat → Addr} {N N' : Nat} {H H' : Hp} {d : D} {v : V} (l : Lift μ N H μ' N' H') (q : DV K μ N H d v) : DV K μ' N' H' d v := DV.lift l d v q
theorem dvs_bls {K : PySem.W.Frag} {μ : Nat → Addr} {N : Nat} {H : Hp} : ∀ {bs : List Bool} {xs : List V}, DVs K μ N H (bs.map D.bl) xs → xs = bs.map V.bl
  | [], xs, h => by rw [List.map_nil] at h; exact h.inv_nil
  | b :: r, xs, h => by
    rw [List.map_cons] at h
    obtain ⟨v, vr, rfl, q1, q2⟩ := h.inv_cons
    rw [bl_dv q1, dvs_bls q2]; rfl
theorem me_lcnt (ho : ME X W o fo) (ha : MA X W [e] g) (hbase : attributeBase o "count" X.env (eval o X.env) = eval o X.env := by rfl)
    (hfew : ((backTo cpos (starEach [e] X.env)).all (fun x => !x.1) && (backToKw cpos (keywordEach [] X.env)).all (fun x => x.1.isSome) && decide (([e] : List Expr).length + ([] : List Keyword).length + (if ([] : List Keyword).isEmpty then 0 else 1) < 30)) = true := by rfl)
    (hline : (apos.endLine == cpos.line) = true := by rfl) (hs : starEach [e] X.env = (false, eval e X.env) :: starEach [] X.env := by rfl) (hplain : (backTo cpos (starEach [] X.env)).any (·.1) = false := by rfl) :
    ME X W (.Call (.Attribute o "count" apos) [e] [] cpos) (eLm gLCnt fo g) := by
  refine ⟨fun pins s σ H Q I h => ?_⟩
  refine (pe_bm PySem.F.plainAttrs_list PySem.F.slot_list_count PySem.F.type_list_count mt_cntB ho ha hbase hfew hline hs hplain).run pins s σ H Q I ?_
  refine tM.mono (fun v H1 ⟨μ, M, ρ, d, r, e, q, a1⟩ => ?_) (tM.seq (rel := DV X.K) h)
  split at a1
  · rename_i xs hx
    obtain ⟨a, ys, rfl, hsq, dq⟩ := seqL_ok r q hx
    refine ⟨.inl ⟨rfl, ys, hsq⟩, ?_⟩
    have a2 := Ans.bind (rel := DVs X.K) a1
    refine ⟨μ, M, ρ, r, e, a2.mono (fun us H2 ⟨μ1, M1, ds, l, r1, q1, a3⟩ => ?_) fun _ _ _ z => z⟩
    unfold gLCnt at a3
    split at a3
    · rename_i _ _ bs b hbs
      obtain ⟨zs, hz, hb2⟩ := Option.bind_eq_some_iff.mp hbs
      obtain ⟨v2, rr, ev, q2, q3⟩ := q1.inv_cons
      rw [q3.inv_nil, bl_dv q2] at ev
      subst ev
      obtain ⟨a', ys', e', hsq', dq'⟩ := seqL_ok r1 (DV.lift l _ _ q) hz
      cases e'
      have hzs := blsOf_eq hb2
      subst hzs
      have hys := dvs_bls dq'
      subst hys
      exact ⟨a, bs, b, rfl, rfl, hsq', a3 μ1 _ _ (Lift.refl ..) r1 (by unfold DV; rfl)⟩
    · exact a3.elim
  · exact a1.elim
theorem me_lidx (ho : ME X W o fo) (ha : MA X W [e] g) (hbase : attributeBase o "index" X.env (eval o X.env) = eval o X.env := by rfl)
    (hfew : ((backTo cpos (starEach [e] X.env)).all (fun x => !x.1) && (backToKw cpos (keywordEach [] X.env)).all (fun x => x.1.isSome) && decide (([e] : List Expr).length + ([] : List Keyword).length + (if ([] : List Keyword).isEmpty then 0 else 1) < 30)) = true := by rfl)
    (hline : (apos.endLine == cpos.line) = true := by rfl) (hs : starEach [e] X.env = (false, eval e X.env) :: starEach [] X.env := by rfl) (hplain : (backTo cpos (starEach [] X.env)).any (·.1) = false := by rfl) :
    ME X W (.Call (.Attribute o "index" apos) [e] [] cpos) (eLm gLIdx fo g) := by
  refine ⟨fun pins s σ H Q I h => ?_⟩
  refine (pe_bm PySem.F.plainAttrs_list PySem.F.slot_list_index PySem.F.type_list_index mt_idxB ho ha hbase hfew hline hs hplain).run pins s σ H Q I ?_
  refine tM.mono (fun v H1 ⟨μ, M, ρ, d, r, e, q, a1⟩ => ?_) (tM.seq (rel := DV X.K) h)
  split at a1
  · rename_i xs hx
    obtain ⟨a, ys, rfl, hsq, dq⟩ := seqL_ok r q hx
    refine ⟨.inl ⟨rfl, ys, hsq⟩, ?_⟩
    have a2 := Ans.bind (rel := DVs X.K) a1
    refine ⟨μ, M, ρ, r, e, a2.mono (fun us H2 ⟨μ1, M1, ds, l, r1, q1, a3⟩ => ?_) fun _ _ _ z => z⟩
    unfold gLIdx at a3
    split at a3
    · rename_i _ _ bs b hbs
      obtain ⟨zs, hz, hb2⟩ := Option.bind_eq_some_iff.mp hbs
      obtain ⟨v2, rr, ev, q2, q3⟩ := q1.inv_cons
      rw [q3.inv_nil, bl_dv q2] at ev
      subst ev
      obtain ⟨a', ys', e', hsq', dq'⟩ := seqL_ok r1 (DV.lift l _ _ q) hz
      cases e'
      have hzs := blsOf_eq hb2
      subst hzs
      have hys := dvs_bls dq'
      subst hys
      split at a3
      · rename_i hm
        exact ⟨a, bs, b, rfl, rfl, hsq', hm, a3 μ1 _ _ (Lift.refl ..) r1 (by unfold DV; rfl)⟩
      · exact a3.elim
    · exact a3.elim
  · exact a1.elim
end
end Br
namespace Br
open PySem PySem.Spec PyProof.Rows L2
section
variable {X : Cx}
open Classical in
noncomputable def sTryK (KF : Addr → Addr → FL) (x f : Str) (i : Nat) (g : FStm) : FStm := fun ρ M => if (∀ (a dd : Addr) (M : Mem), KF a dd [.adr a dd] M = .ok (.str x) M) then sTryF x f i g ρ M else .no
theorem ms_tryK' {W : WX} {x n f kn : Str} {i j : Nat} {KF : Addr → Addr → FL} {body : List Stmt} {orelse : Expr} {np p p1 p2 p3 p4 p5 p6 p7 p8 pos pos' : Pos} {g : FStm} (hs : X.stack = X.env :: X.outer) (hf : X.env.frame = some X.env.locals) (hN : X.N.Nodup) (hi : X.N[i]? = some n) (hln : X.env.kindOf n = some .local)
    (hvis : X.env.scope.names.lookup n = some .local) (hnd : (n == ("__debug__" : Str)) = false) (hncd : (n == ("__classdict__" : Str)) = false)
    (hg : Gl X x) (hm : X.mg x = some (.ref (He.ga X.K x))) (hdb : (x == ("__debug__" : Str)) = false) (tk : L2N.Takes X W) (hex : PySem.W.exmOne X.K (.ref (He.ga X.K x)) (.ref (He.ga X.K x)) = some true) (T : XfC X.K (He.ga X.K x)) (hno : PySem.W.findIn X.K (.ref (He.ga X.K x)) f = some none)
    (hk : KindOk X x kn KF) (hgd : X.A.guards = some []) (hu : X.A.units + 64 < cLine) (hgk : Gl X kn) (hdbk : (kn == ("__debug__" : Str)) = false) (hcn : x.length ≤ sizeLine)
    (hor : ∀ a oe pn, ∃ to, PE (X.suite a ((a, oe) :: pn)) orelse to)
    (hb : ∀ (W : WX) (pn : List (Addr × Obj)) (xe : Value → Shared → Prop), L2N.Takes (X.tr pn xe) W → MSs (X.tr pn xe) W body g) (hmk : behindInMarks .Eq (.Constant (.str x) j p4) = false := by rfl) :
    MS X W (.Try body [.ExceptHandler (some (.Name x np)) (some n) [.Return (some (.IfExp (.Compare (.Call (.Name kn p) [.Name n p1] [] p2) [.Eq] [.Constant (.str x) j p4] p5) (.Attribute (.Name n p3) f p6) orelse p8)) p7] pos'] [] [] pos) (sTryK KF x f i g) := by
  by_cases h : ∀ (a dd : Addr) (M : Mem), KF a dd [.adr a dd] M = .ok (.str x) M
  · have e : sTryK KF x f i g = sTryF x f i g := by
      funext ρ M
      unfold sTryK
      rw [if_pos h]
    rw [e]
    exact ms_tryK hs hf hN hi hln hvis hnd hncd hg hm hdb tk hex T hno hk h hgd hu hgk hdbk hcn hor hb hmk
  · refine ⟨fun pins s σ H D I ⟨μ, M, ρ, r, e, a⟩ => ?_⟩
    unfold sTryK at a
    rw [if_neg h] at a
    exact a.elim
end
end Br
namespace Br
open PySem PySem.Spec PyProof.Rows L2
section
variable {X : Cx} {W : WX} {es : List Expr} {b : Expr} {g : FA} {fb : FE} {p1 pos : Pos}
/-- [..] * n, by value -/
def eRepV (g : FA) (fb : FE) : FE := fun ρ M => (g ρ M).bind fun ds M1 => if ds.length ≤ sizeLine then (fb ρ M1).bind fun d M2 => (match d with
  | .int k => if (-(2 ^ 63) ≤ k ∧ k < 2 ^ 63) ∧ ds.length * k.toNat ≤ sizeLine then .ok (.lst (List.replicate k.toNat ds).flatten) M2 else .no
  | _ => .no) else .no
theorem me_repV (h : MA X W es g) (hb : ME X W b fb) : ME X W (.BinOp (.List es p1) .Mult b pos) (eRepV g fb) := by
  refine PE.weak (pe_op (OpR.lock op_rep) (pe_lst h) hb) fun σ H Q hw => ?_
  refine tM.mono (fun vs H1 ⟨μ, M, ρ, ds, r, e, q, a1⟩ => ?_) (tM.seq (rel := DVs X.K) hw)
  by_cases hl : ds.length ≤ sizeLine
  · rw [if_pos hl] at a1
    refine ⟨by rw [q.length]; exact hl, fun p hp => ?_⟩
    have l0 := Lift.fresh (μ := μ) (N := M.length) (o := HO.lst vs) hp
    have hne : ∀ n, n < M.length → μ n ≠ p := fun n hn => r.ne hn hp
    refine ⟨μ, M, ρ, r.fresh hp, e.lift l0, ?_⟩
    have a2 := Ans.bind (rel := DV X.K) (Ans.rebase l0 a1)
    refine a2.mono (fun y H2 ⟨μ1, M1, d, l, r1, q1, a3⟩ => ?_) fun _ _ _ z => z
    split at a3
    · rename_i k
      split at a3
      · rename_i hk
        have hH : H2 p = some (.lst vs) := l.fr p _ upd_same hne
        have dq : DVs X.K μ1 M1.length H2 ds vs := (q.lift l0).lift l
        exact ⟨p, k, vs, rfl, int_dv q1, hH, hk.1.1, hk.1.2, by rw [dq.length]; exact hk.2, fun p2 hp2 => ⟨p2, _, rfl, upd_same, fun o => ans_lst r1 (dq.rep _) a3 p2 hp2 o⟩⟩
      · exact a3.elim
    · exact a3.elim
  · rw [if_neg hl] at a1; exact a1.elim
end
end Br
end
section
namespace Br
open PySem PySem.Spec PyProof.Rows L2
/-! ### try: body / except C as n: return repr(n.f) + g(n) -/
section
variable {X : Cx}
/-- what the suite asks for -/
def tKdR (K : PySem.W.Frag) (a : Addr) (cls : Value) (d : Option Addr) (C : Addr) (c f : Str) (i : Nat) : TE := fun σ H Q => ∃ (μ : Nat → Addr) (M : Mem) (ρ : En) (dd : Addr) (gs : List (Str × V)) (v : V) (dv : D) (z : Str), Rel K μ M H ∧ EV K μ M.length H ρ σ ∧ ρ[i]? = some (some (.adr a dd)) ∧
  cls = .ref C ∧ d = some dd ∧ H dd = some (.xd gs) ∧ gs.lookup f = some v ∧ DV K μ M.length H dv v ∧ gRepr [dv] M = .ok (.str z) M ∧ z.length + c.length ≤ sizeLine ∧
  ∀ μ' H', Lift μ M.length H μ' M.length H' → Rel K μ' M H' → Q (.str (z ++ c)) H'
theorem pe_kdR {a : Addr} {oe : Obj} {cls : Value} {d : Option Addr} {pn : List (Addr × Obj)} {c kn n f : Str} {i : Nat} {KF : Addr → Addr → FL} {p p1 p2 p3 p4 p5 p8 pos : Pos}
    (T : XfC X.K (He.ga X.K c)) (hno : PySem.W.findIn X.K (.ref (He.ga X.K c)) f = some none) (hz : L2N.Zn cls d oe) (hf : ∃ vs, oe.data = .fields vs)
    (hk : KindOk X c kn KF) (hK : ∀ a dd M, KF a dd [.adr a dd] M = .ok (.str c) M) (hgd : X.A.guards = some []) (hu : X.A.units + 128 < cLine) (hg : Gl X kn) (hgr : Gl X "repr") (hmr : X.mg "repr" = none) (hi : X.N[i]? = some n) (hv : Vis X.env.scope n) (hnd : (n == ("__debug__" : Str)) = false) (hncd : (n == ("__classdict__" : Str)) = false) (hdb : (kn == ("__debug__" : Str)) = false) :
    PE (X.suite a ((a, oe) :: pn)) (.BinOp (.Call (.Name "repr" p4) [.Attribute (.Name n p3) f p5] [] p8) .Add (.Call (.Name kn p) [.Name n p1] [] p2) pos) (tKdR X.K a cls d (He.ga X.K c) c f i) := by
  refine ⟨fun pins s σ H Q I ⟨μ, M, ρ, dd, gs, v, dv, z, r, e, hρ, h1, h2, h3, h4, h5, h6, h7, hQ⟩ => ?_⟩
  subst h1 h2
  obtain ⟨vs, hd⟩ := hf
  have hat := pe_xf (X := X) (a := a) (oe := oe) (cls := .ref (He.ga X.K c)) (d := some dd) (pn := pn) (n := f) (pos := p5) T hno hz.zc ⟨vs, hd⟩ (pe_var (X := X.suite a ((a, oe) :: pn)) (pos := p3) hi hv hnd hncd)
  have hl := pe_callB (X := X.suite a ((a, oe) :: pn)) (x := "repr") (p := p4) (pos := p8) ((cm_repr (X := X.suite a ((a, oe) :: pn)) hgd hu) (fun _ _ _ => False)) hgr hmr (by rfl) (pa_cons hat pa_nil)
  have hr := me_kind (X := X.suite a ((a, oe) :: pn)) (W := fun _ _ _ _ => False) (p := p) (p1 := p1) (pos := p2) (List.mem_cons_self ..) hz.1 hz.2.1 hd (hz.2.2 _ hd) rfl (KindOk.suite hk) hgd (fun u s' ⟨_, _, _, _, _, _, _, _, _, _, _, _, _, _, _, _, z⟩ => z.elim) hg hi hv hnd hncd hdb
  refine (pe_op (om_add (X := X.suite a ((a, oe) :: pn)) (fun _ _ _ => False)) hl hr).run pins s σ H Q I ?_
  obtain ⟨w, hσ, hw⟩ := e.at_ i _ hρ
  have hw1 : w = .ref a ∧ ∃ u, H dd = some u := by unfold DV at hw; exact hw
  refine ⟨w, hσ, hw1.1, rfl, dd, gs, v, rfl, h3, h4, ?_⟩
  refine ⟨μ, M, [dv], r, DVs.cons h5 DVs.nil, ?_⟩
  rw [h6]
  intro μ1 H1 v1 l1 r1 q1
  have e1 : v1 = .str z := by unfold DV at q1; exact q1
  subst e1
  refine ⟨μ1, M, ρ, r1, e.lift l1, ?_⟩
  have : fKind a dd i KF ρ M = .ok (.str c) M := by
    unfold fKind
    rw [hρ]
    dsimp only
    rw [if_pos ⟨rfl, rfl⟩]
    exact hK a dd M
  rw [this]
  intro μ2 H2 v2 l2 r2' q2
  refine ⟨μ2, M, .str z, .str c, r2', by unfold DV; rfl, q2, ?_⟩
  have e3 : gAdd (.str z) (.str c) M = .ok (.str (z ++ c)) M := by
    unfold gAdd
    dsimp only
    rw [if_pos h7]
  rw [e3]
  intro μ3 H3 v3 l3 r3 q3
  have e4 : v3 = .str (z ++ c) := by unfold DV at q3; exact q3
  subst e4
  exact hQ μ3 H3 ((l1.trans l2).trans l3) r3
open Classical in
/-- the shown field of the exception, and its class's name -/
noncomputable def sTryR (KF : Addr → Addr → FL) (x f : Str) (i : Nat) (g : FStm) : FStm := fun ρ M => if (∀ (a dd : Addr) (M : Mem), KF a dd [.adr a dd] M = .ok (.str x) M) then (match g ρ M with
  | .ex ⟨.gl y, some fs⟩ ρ' M' => if y = x ∧ i < ρ'.length then (match fs.lookup f with
    | some d => (match gRepr [d] M' with
      | .ok (.str z) M2 => if M2 = M' ∧ z.length + x.length ≤ sizeLine then .go (.ret (.str (z ++ x))) ρ' M' else .no
      | _ => .no)
    | none => .no) else .no
  | .ex _ _ _ => .no
  | r => r) else .no
theorem ms_tryR {W : WX} {x n f kn : Str} {i : Nat} {KF : Addr → Addr → FL} {body : List Stmt} {np p p1 p2 p3 p4 p5 p6 p7 p8 pos pos' : Pos} {g : FStm} (hs : X.stack = X.env :: X.outer) (hf : X.env.frame = some X.env.locals) (hN : X.N.Nodup) (hi : X.N[i]? = some n) (hln : X.env.kindOf n = some .local)
    (hvis : X.env.scope.names.lookup n = some .local) (hnd : (n == ("__debug__" : Str)) = false) (hncd : (n == ("__classdict__" : Str)) = false)
    (hg : Gl X x) (hm : X.mg x = some (.ref (He.ga X.K x))) (hdb : (x == ("__debug__" : Str)) = false) (tk : L2N.Takes X W) (hex : PySem.W.exmOne X.K (.ref (He.ga X.K x)) (.ref (He.ga X.K x)) = some true) (T : XfC X.K (He.ga X.K x)) (hno : PySem.W.findIn X.K (.ref (He.ga X.K x)) f = some none)
    (hk : KindOk X x kn KF) (hgd : X.A.guards = some []) (hu : X.A.units + 128 < cLine) (hgk : Gl X kn) (hdbk : (kn == ("__debug__" : Str)) = false) (hgr : Gl X "repr") (hmr : X.mg "repr" = none)
    (hb : ∀ (W : WX) (pn : List (Addr × Obj)) (xe : Value → Shared → Prop), L2N.Takes (X.tr pn xe) W → MSs (X.tr pn xe) W body g) :
    MS X W (.Try body [.ExceptHandler (some (.Name x np)) (some n) [.Return (some (.BinOp (.Call (.Name "repr" p4) [.Attribute (.Name n p3) f p5] [] p8) .Add (.Call (.Name kn p) [.Name n p1] [] p2) p6)) p7] pos'] [] [] pos) (sTryR KF x f i g) := by
  by_cases hK : ∀ (a dd : Addr) (M : Mem), KF a dd [.adr a dd] M = .ok (.str x) M
  · refine PS.weak (L2N.ps_try_as (c := .ref (He.ga X.K x)) (Wout := W) (tb := fun W => tSt X.K W g) (ts := fun a cls d => tRet (tKdR X.K a cls d (He.ga X.K x) x f i)) hs hf hN hi hln ⟨hg, hdb, .inl hm⟩ tk (fun W pn xe t _ => hb W pn xe t)
      (fun a oe cls d pn hz hv => pss_one (ps_ret (pe_kdR T hno hz hv hk hK hgd hu hgk hgr hmr hi (Or.inl hvis) hnd hncd hdbk)))) fun D σ H ⟨μ, M, ρ, r, e, a⟩ => ⟨μ, M, ρ, r, e, ?_⟩
    unfold sTryR at a
    rw [if_pos hK] at a
    cases hgg : g ρ M with
    | go fl ρ1 M1 => rw [hgg] at a; cases fl <;> exact a
    | no => rw [hgg] at a; exact a.elim
    | ex ex ρ1 M1 =>
      rw [hgg] at a
      obtain ⟨cl, fso⟩ := ex
      cases cl with
      | gl y =>
        cases fso with
        | none => exact a.elim
        | some fs =>
          dsimp only at a
          by_cases hc : y = x ∧ i < ρ1.length
          · rw [if_pos hc] at a
            obtain ⟨hy, hil⟩ := hc
            subst hy
            cases hl : fs.lookup f with
            | none => rw [hl] at a; exact a.elim
            | some d =>
              rw [hl] at a
              dsimp only at a
              split at a
              · rename_i z M2 hz
                split at a
                · rename_i hM
                  obtain ⟨hM2, hsz⟩ := hM
                  subst hM2
                  intro μ' H' σ' cls dd l r' e' hx
                  obtain ⟨h1, ad, gs, h2, h3, h4⟩ := hx
                  have h1' : cls = .ref (He.ga X.K y) := h1
                  have hk2 := FV.look (f := f) h4
                  rw [hl] at hk2
                  obtain ⟨v, h5, h6⟩ := hk2
                  subst h1'
                  refine ⟨true, hex, fun _ a0 hn => ?_, fun z => by cases z⟩
                  refine ⟨μ', M2, ρ1.set i (some (.adr a0 ad)), ad, gs, v, d, z, r', ?_, List.getElem?_set_self hil, rfl, h2, h3, h5, h6, hz, hsz, fun μ2 H2 l2 r2 => a μ2 H2 (.str (z ++ y)) (l.trans l2) r2 (by unfold DV; rfl)⟩
                  exact e'.set (v := .ref a0) (by unfold DV; exact ⟨rfl, _, h3⟩) i
                · exact a.elim
              · exact a.elim
          · rw [if_neg hc] at a; exact a.elim
      | _ => exact a.elim
  · refine ⟨fun pins s σ H D I ⟨μ, M, ρ, r, e, a⟩ => ?_⟩
    unfold sTryR at a
    rw [if_neg hK] at a
    exact a.elim
end
end Br
end
section
namespace BrX
open PySem PySem.HandSPX
open PySem.Builtin PySem.Builtin.ObjectAttr
/-! ### own exceptions over any built-in class: C(..) makes one, by place and by name -/
section
variable {M : Model} {A : Around} {E : Value → Shared → Prop} {h : Heap} {g : Array GenState} {d : Drawn} {t : Nat} {os : OsState}
variable {nm q : Str} {C N : Addr} {bs bm bmB : List Value} {hdct : Bool} {sn : List Str} {sub : List Value} {ab : Bool} {col : Option Bool} {dd : Option Addr} {k0 k1 k2 k3 k5 : Option Value} {B newId initId : String}
theorem check_new_g (F : ExcBaseFacts B newId initId bmB) (hB : bm.contains (.type B) = true) {rest : List Value} {kws : List (Str × Value)} {Q : Unit → Shared → Prop}
    (hC : h.get? C = some (excClassObj nm q C N bs bm hdct sn sub ab col dd k0 k1 k2 k3 k5 newId)) (hq : Q () ⟨h, g, d, t, os⟩) : wpAny M A (checkBuiltinCall newId ⟨.ref C :: rest, kws⟩) Q E ⟨h, g, d, t, os⟩ := by
  have hcont : (Value.ref C :: bm).contains (.type B) = true := by rw [List.contains_cons, hB, Bool.or_true]
  have hstar := F.noStar
  simp only [checkBuiltinCall, F.newKind, F.newSplit, F.newRow]
  repeat (first | refine wpAny_loadPart_at hC ?_ | (refine wpAny_isSubtype_exc hC ?_; rw [hcont]) | refine wpAny_staticBase_exc hC ?_ | refine wpAny_madeBy_exc hC ?_ | simp only [bne_self_eq_false, Bool.false_eq_true, if_false] | wp_step)
  exact hq
end
section
variable {prog : Program} {w : World} {A : Around} {E : Value → Shared → Prop} {R : Result → Shared → Prop} {h : Heap} {g : Array GenState} {d : Drawn} {t : Nat} {os : OsState}
variable {nm q : Str} {C N : Addr} {bs bm bmB : List Value} {hdct : Bool} {sn : List Str} {sub : List Value} {ab : Bool} {col : Option Bool} {dd : Option Addr} {k0 k1 k2 k3 k5 : Option Value} {B newId initId : String}
theorem new_g (F : ExcBaseFacts B newId initId bmB) (hB : bm.contains (.type B) = true) (hA : bm.contains (.type "AttributeError") = false) (hN : bm.contains (.type "NameError") = false) {rest : List Value} {kws : List (Str × Value)}
    (hC : h.get? C = some (excClassObj nm q C N bs bm hdct sn sub ab col dd k0 k1 k2 k3 k5 newId))
    (hq : R (.ok (.ret (.ref (h.objs.size + 1)))) ⟨(h.push { cls := .type "tuple", data := .seq rest.toArray }).push
      { cls := .ref C, data := .fields #[.ref h.objs.size, .none, .none, .none, .bool false, .none] }, g, d, t, os⟩) (hrest : rest.length ≤ sizeLine) :
    codeAny (model prog w) A (.builtin newId ⟨.ref C :: rest, kws⟩) R ⟨h, g, d, t, os⟩ := by
  have hends := F.ends
  have hcB : (Value.ref C :: bm).contains (.type B) = true := by rw [List.contains_cons, hB, Bool.or_true]
  have hcA : (Value.ref C :: bm).contains (.type "AttributeError") = false := by rw [List.contains_cons, hA]; rfl
  have hcN : (Value.ref C :: bm).contains (.type "NameError") = false := by rw [List.contains_cons, hN]; rfl
  refine codeAny_builtinAt F.entry ?_
  unfold Builtin.«BaseException.__new__»
  refine wpAt_bind ?_
  show wpAt _ _ _ (stack >>= _) _ _ _
  refine wpAt_bind (wpAt_stack fun p below => wpAt_of_wpAny ?_)
  wp_walk
  refine wpAt_of_wpAny ?_
  rw [F.owner]
  repeat (first | with_reducible refine wpAny_madeHere_exc F.canon hC ?_ | with_reducible refine wpAny_loadPart_at hC ?_ | (with_reducible refine wpAny_isSubtype_exc hC ?_; first | rw [hcB] | rw [hcA] | rw [hcN]) | wp_step)
  show R _ _
  rw [Heap.size_push]
  exact hq
theorem type_call_g (F : ExcBaseFacts B newId initId bmB) (hB : bm.contains (.type B) = true) (hA : bm.contains (.type "AttributeError") = false) (hN : bm.contains (.type "NameError") = false) {rest : List Value} {kws : List (Str × Value)} {fI : Addr} {Q : Fin → Shared → Prop}
    (hC : h.get? C = some (excClassObj nm q C N bs bm hdct sn sub ab col dd k0 k1 k2 k3 k5 newId))
    (hi : W.Looks (model prog w) h (typeLookup (.ref C) "__init__") (some (.ref fI))) (hb : ∀ self, W.Looks (model prog w) h (bindSpecial (.ref fI) self) (.ref fI, [self])) (hrest : rest.length ≤ sizeLine)
    (hq : codeAny (model prog w) A (.call (.ref fI) ⟨.ref (h.objs.size + 1) :: rest, kws⟩)
      (fun r s' => match r with | .ok (.ret v) => v = .none ∧ Q (.done (.ret (.ref (h.objs.size + 1)))) s' | .ok _ => False | .error e => E e s')
      ⟨(h.push (W.kdv_tup rest)).push (excO C h.objs.size), g, d, t, os⟩) :
    wpAny (model prog w) A (Builtin.«type.__call__» ⟨.ref C :: rest, kws⟩) Q E ⟨h, g, d, t, os⟩ := by
  repeat (first | with_reducible refine wpAny_loadPart_at hC ?_ | with_reducible refine wpAny_madeBy_exc hC ?_ | wp_step)
  refine codeAny_call_builtin_code (Code.quiet_builtin _ F.quiet) (check_new_g F hB hC ?_)
  refine new_g F hB hA hN hC ?_ hrest
  show wpAny _ _ _ _ _ _
  have k : ∀ b o, h.get? b = some o → ((h.push (W.kdv_tup rest)).push (excO C h.objs.size)).get? b = some o := fun b o e => Heap.get?_push_of_some _ (Heap.get?_push_of_some _ e)
  have hC₁ := k _ _ hC
  have hget : ((h.push (W.kdv_tup rest)).push (excO C h.objs.size)).get? (h.objs.size + 1) = some (excO C h.objs.size) := by heap_get
  have hcC : (Value.ref C :: bm).contains (.ref C) = true := by simp
  have i1 := hi.keeps k
  have b1 := (hb (.ref (h.objs.size + 1))).keeps k
  unfold isInstance
  repeat (first | with_reducible refine wpAny_loadPart_at hget ?_ | (with_reducible refine wpAny_isSubtype_exc hC₁ ?_; rw [hcC]) | wp_step)
  show wpAny _ _ (typeLookup (.ref C) _) _ _ _
  refine i1.at ?_
  refine wpAny_holding (wpAny_bind (b1.at ?_))
  refine wpAny_bind (wpAny_call (codeAny_mono hq fun r s' z => ?_))
  rcases r with e | (v | _ | _ | _) <;> first | exact z | exact z.elim | skip
  obtain ⟨rfl, z⟩ := z
  first
    | exact wpAny_pure (wpAny_pure z)
    | (wp_walk; exact z)
theorem call_g (F : ExcBaseFacts B newId initId bmB) (hB : bm.contains (.type B) = true) (hA : bm.contains (.type "AttributeError") = false) (hN : bm.contains (.type "NameError") = false) {rest : List Value} {kws : List (Str × Value)} {fI : Addr}
    (hC : h.get? C = some (excClassObj nm q C N bs bm hdct sn sub ab col dd k0 k1 k2 k3 k5 newId))
    (hi : W.Looks (model prog w) h (typeLookup (.ref C) "__init__") (some (.ref fI))) (hb : ∀ self, W.Looks (model prog w) h (bindSpecial (.ref fI) self) (.ref fI, [self])) (hrest : rest.length ≤ sizeLine)
    (hq : codeAny (model prog w) (A.under (.builtin "type.__call__" ⟨.ref C :: rest, kws⟩)) (.call (.ref fI) ⟨.ref (h.objs.size + 1) :: rest, kws⟩) (W.InitBack (h.objs.size + 1) R)
      ⟨(h.push (W.kdv_tup rest)).push (excO C h.objs.size), g, d, t, os⟩) :
    codeAny (model prog w) A (.call (.ref C) ⟨rest, kws⟩) R ⟨h, g, d, t, os⟩ := by
  have f1 := tc_lookup
  have f2 := tc_bind (.ref C)
  have hTy : (⟨h, g, d, t, os⟩ : Shared).TypeIs (.ref C) "type" := ⟨_, hC, rfl⟩
  refine codeAny_of_tree ?_
  show wpAny _ _ (callAny (.ref C) _) _ _ _
  repeat (any_goals (first | assumption | with_reducible refine wpAny_loadPart_at hC ?_ | wp_step))
  refine ⟨rfl, ?_⟩
  refine codeAny_call_builtin_at (Code.quiet_builtin _ (by decide +kernel)) entry_typeCall (wpAny_check_type_call_sub hC (type_call_g F hB hA hN hC hi hb hrest ?_))
  refine codeAny_mono hq fun r s' z => ?_
  rcases r with e | (v | _ | _ | _) <;> exact z
end
end BrX
end
section
namespace BrX
open PySem PySem.HandSPX
open PySem.Builtin PySem.Builtin.ObjectAttr
abbrev ebase : List Value := [.type "Exception", .type "BaseException", .type "object"]
/-- the mros of the built-in classes that own ones stand under -/
def tailsE : List (List Value) := [.type "ValueError" :: ebase, .type "TypeError" :: ebase, .type "IndexError" :: .type "LookupError" :: ebase, .type "KeyError" :: .type "LookupError" :: ebase,
  .type "LookupError" :: ebase, .type "OverflowError" :: .type "ArithmeticError" :: ebase, .type "RuntimeError" :: ebase]
theorem tails_pass {l : List Value} (h : tailsE.contains l = true) (self : Value) : refuseLoop self "__setattr__" l = pure () := by
  have h' := List.contains_iff_mem.mp h
  unfold tailsE at h'
  simp only [List.mem_cons, List.not_mem_nil, or_false] at h'
  rcases h' with rfl | rfl | rfl | rfl | rfl | rfl | rfl <;> kernel_rfl
theorem tails_ob {l : List Value} (h : tailsE.contains l = true) : l.contains (.type "object") = true ∧ l.contains (.type "AttributeError") = false ∧ l.contains (.type "NameError") = false := by
  have h' := List.contains_iff_mem.mp h
  unfold tailsE at h'
  simp only [List.mem_cons, List.not_mem_nil, or_false] at h'
  rcases h' with rfl | rfl | rfl | rfl | rfl | rfl | rfl <;> decide +kernel
section
variable {prog : Program} {w : World} {A : Around} {E : Value → Shared → Prop} {R : Result → Shared → Prop} {hp : Heap} {g : Array GenState} {d : Drawn} {t : Nat} {os : OsState}
theorem osa_g {K : W.Frag} {name : Str} {tk : Tok} {v : Value} {x C : Addr} {fv : Array Value} {cd : ClassData} {bm : List Value}
    (X : K.In hp) (hx : hp.get? x = some { cls := .ref C, data := .fields fv }) (hcd : W.clsIn K C = some cd) (hm0 : cd.mro = .ref C :: bm) (hm : tailsE.contains bm = true) (hh : cd.hasDict = true) (ha : W.findIn K (.ref C) name = some none)
    (hq : ∀ h' tk' dx, (∀ b o, b ≠ x → hp.get? b = some o → h'.get? b = some o) → hp.objs.size ≤ dx → dx ≠ x → h'.get? x = some { cls := .ref C, dict := some dx, data := .fields fv } →
      h'.Ns1 dx (fun y => if y = name then some v else none) → R (.ok (.ret .none)) ⟨h', g, d, tk', os⟩) :
    codeAny (model prog w) A (.call (.builtin "object.__setattr__") ⟨[.ref x, .str name tk, v], []⟩) R ⟨hp, g, d, t, os⟩ := by
  have I : W.InstAt hp x { cls := .ref C, data := .fields fv } C none := ⟨hx, rfl, rfl, trivial⟩
  have SF := F.store_object
  have ne : cd.mro.isEmpty = false := by rw [hm0]; rfl
  have hob : cd.mro.contains (.type "object") = true := by rw [hm0, List.contains_cons, (tails_ob hm).1, Bool.or_true]
  have hxs : x ≠ hp.objs.size := Nat.ne_of_lt (Heap.lt_size hx)
  have sub : W.Looks (model prog w) hp (isInstance (.ref x) (.type "object")) true := I.type.andThen (W.looks_mroIn X (by unfold W.mroIn; rw [hcd, Option.bind_some, if_neg (by rw [ne]; decide), hob]))
  refine codeAny_call_builtin SF.slot.plain SF.entry (@W.check_slot (model prog w) _ _ ⟨hp, g, d, t, os⟩ "object.__setattr__" "object" "__setattr__" (.ref x) [.str name tk, v] [] _ SF.kind SF.split sub (SF.args (.ref x) (.str name tk) v) ?_)
  have hmr : W.Looks (model prog w) hp (mroOf (.ref C)) cd.mro := (W.looks_clsIn X hcd).andThen .now
  have L3 : W.Looks (model prog w) hp (storeTaker? none) none := .now
  have hcls : W.Looks (model prog w) hp (classData C) cd := W.looks_clsIn X hcd
  rw [W.osa_eq, refuse_eq]
  refine wpAny_bind (wpAny_bind (I.type.at (wpAny_bind (hmr.at ?_))))
  rw [hm0, refuseLoop_ref, tails_pass hm]
  refine wpAny_pure (wpAny_bind (I.type.at (wpAny_bind ((W.looks_findIn X ha).at (wpAny_bind (L3.at ?_))))))
  show wpAny _ _ (storeInOwnDict (.ref x) (.ref C) (.str name tk) name v false) _ _ _
  obtain ⟨nm, bs, mro, ns, qn, hd, sn, sb, ab, col, del⟩ := cd
  dsimp only at hh
  subst hh
  unfold storeInOwnDict ownDictForStores
  repeat (first | with_reducible refine store_in_new ?_ ?_ | with_reducible refine wpAny_loadPart_at hx ?_ | with_reducible refine hcls.at ?_ | wp_step)
  · exact ⟨_, #[], _, (Heap.get?_update_ne _ _ _ _ hxs.symm).trans (Heap.get?_push_at rfl rfl), rfl, fun e he => absurd he (by simp), fun _ => rfl⟩
  · intro h' tk' hn' hs
    have hx₁ : (hp.push { cls := .type "dict", data := .dict #[] }).get? x = some { cls := .ref C, data := .fields fv } := Heap.get?_push_of_some _ hx
    refine hq h' tk' hp.objs.size (fun b o hb ho => ?_) (Nat.le_refl _) hxs.symm ?_ hn'
    · exact (hs.2 b (Nat.ne_of_lt (Heap.lt_size ho))).trans ((Heap.get?_update_ne _ _ _ _ hb).trans (Heap.get?_push_of_some _ ho))
    · exact (hs.2 x hxs).trans (Heap.get?_update_self _ hx₁ rfl)
end
end BrX
namespace Br
open PySem PySem.Spec PyProof.Rows L2
/-- an own class of exceptions right under a built-in one -/
structure OexG (K : PySem.W.Frag) (C : Addr) : Prop where
  cls : ∃ nm q N bs bm sn sub ab col dd k0 k1 k2 k3 k5 B newId initId bmB, K.lookup C = some (excClassObj nm q C N bs bm true sn sub ab col dd k0 k1 k2 k3 k5 newId) ∧ BrX.tailsE.contains bm = true ∧ ExcBaseFacts B newId initId bmB ∧ bm.contains (.type B) = true
  sa : PySem.W.findIn K (.ref C) "__setattr__" = some (some (.builtin "object.__setattr__"))
  exC : PySem.W.subIn K (.ref C) (.type "BaseException") = some true
  tyC : PySem.W.typeIn K (.ref C) = some (.type "type")
  kC : PySem.W.keepIn K (.ref C) = true
section
variable {X : Cx} {pins : List (Addr × Obj)} {σ : L2.St} {H : Hp} {s : Shared} {a C dx : Addr} {f : Str} {y : V} {u : Value} {fs : List (Str × V)} {Q : Unit → Shared → Prop} {E : Value → Shared → Prop} {A : Around}
theorem ost_g (T : OexG X.K C) (I : Inv X pins σ H s) (e : H a = some (exo a C none)) (hno : PySem.W.findIn X.K (.ref C) f = some none) (ry : RelV y u)
    (h : ∀ dx s', H dx = none → dx ≠ a → Inv X pins σ (upd (upd H dx (exd dx [(f, y)])) a (exo a C (some dx))) s' → Q () s') : wpAny (model X.prog X.w) A (setAttr (.ref a) f u) Q E s := by
  obtain ⟨nm, q, N, bs, bm, sn, sub, ab, col, dd, k0, k1, k2, k3, k5, B, newId, initId, bmB, hC, hbm, _, _⟩ := T.cls
  have hcl : PySem.W.clsIn X.K C = some { name := nm, bases := bs, mro := .ref C :: bm, ns := N, qualname := q, hasDict := true, slotNames := sn, subclasses := sub, abstract := ab, collection := col, hasDel := false } := by unfold PySem.W.clsIn; rw [hC] <;> rfl
  obtain ⟨t1, ho⟩ := exo_at I.hok e
  obtain ⟨hp, g, d, t, os⟩ := s
  refine PySem.W.set_plain I.kIn (ox := { cls := .ref C, dict := none, data := .fields #[.ref t1, .none, .none, .none, .bool false, .none] }) (od := none) ⟨ho, rfl, rfl, trivial⟩ T.sa ?_
  refine BrX.osa_g I.kIn ho hcl rfl hbm rfl hno (fun h' tk' dx k dn dne hx hn => ?_)
  have hnd : H dx = none := I.hok.fresh dn
  have nd : ∀ {b : Addr} {o : Obj}, hp.get? b = some o → b ≠ dx := fun {b o} q => Nat.ne_of_lt (Nat.lt_of_lt_of_le (Heap.lt_size q) dn)
  have na : ∀ {b : Addr}, H b = none → b ≠ a := fun {b} n z => by
    rw [z, e] at n
    cases n
  have Un1 : Un X.fs [] H (upd (upd H dx (exd dx [(f, y)])) a (exo a C (some dx))) hp h' := {
    keep := fun b o q n _ _ => k b o (na n) q
    slot := fun b o q n _ _ => ⟨o.slots, k b o (na n) q⟩
    free := fun b o q n _ => by rw [upd_ne (na n), upd_ne (nd q)]; exact n
    there := fun b o q _ => by
      by_cases hb : b = a
      · exact ⟨_, by rw [hb]; exact hx⟩
      · exact ⟨o, k b o hb q⟩
    tups := fun b xs q => by rw [upd_ne (at_ne e q exo_tup), upd_ne (ne_of_none q hnd)]; exact q
    frzs := fun b o v q => by rw [upd_ne (at_ne e q exo_frz), upd_ne (ne_of_none q hnd)]; exact q
    tbls := fun b ps q => ⟨#[], by rw [upd_ne (at_ne e q exo_tbl), upd_ne (ne_of_none q hnd), q]; simp⟩ }
  refine h dx _ hnd dne (I.un (t' := tk') Un1 fun b o q => ?_)
  by_cases hb : b = a
  · subst hb
    rw [upd_same] at q
    cases q
    exact exo_ok hx
  · rw [upd_ne hb] at q
    by_cases hd : b = dx
    · subst hd
      rw [upd_same] at q
      cases q
      exact exd_ok hn (relO_put (fs := []) ry fun g => True.intro)
    · rw [upd_ne hd] at q
      exact (I.hok b o q).stay (fun c v hc z => k c v (by
          rcases hc with hc | hc
          · rw [hc]
            exact hb
          · exact at_ne e hc exo_own) z)
        (fun c hc => by rw [upd_ne (at_ne e hc exo_own), upd_ne (ne_of_none hc hnd)]; exact hc) (fun c xs hc => by rw [upd_ne (at_ne e hc exo_tup), upd_ne (ne_of_none hc hnd)]; exact hc)
end
/-- self.f = e -/
def tOstG (K : PySem.W.Frag) (f : Str) (to te : TE) : TS := fun D σ H => te σ H fun y H1 => to σ H1 fun x H2 => ∃ a C : Addr, x = .ref a ∧ OexG K C ∧ PySem.W.findIn K (.ref C) f = some none ∧
  H2 a = some (exo a C none) ∧ ∀ dx, H2 dx = none → dx ≠ a → D.nx σ (upd (upd H2 dx (exd dx [(f, y)])) a (exo a C (some dx)))
section
variable {X : Cx} {o e : Expr} {to te : TE} {f : Str} {p p' pos : Pos}
theorem ps_ostG (ho : PE X o to) (he : PE X e te) (hs : swapsWith e (some (.Attribute o f p')) pos.line X.env = pure false := by rfl) : PS X (.Assign [.Attribute o f p'] e pos) (tOstG X.K f to te) := by
  refine ⟨fun pins s σ H D I h => ?_⟩
  refine plainObj_wpAny_Assign_Attribute (thn (he.run pins s σ H _ I h) fun v s1 ⟨y, H1, I1, r1, q1⟩ => thn (ho.run pins s1 σ H1 _ I1 q1) fun u s2 ⟨x, H2, I2, r2, a, C, ex, T, hno, ea, q⟩ => ?_) hs
  subst ex
  obtain rfl : u = Value.ref a := r2
  exact ost_g T I2 ea hno r1 fun dx s' n ne J => ⟨σ, _, J, q dx n ne⟩
end
/-- what such an __init__ does -/
def initG (K : PySem.W.Frag) (f : Str) : Sp := fun vs H Q _ => ∃ (a C : Addr) (y : V), vs = [.ref a, y] ∧ OexG K C ∧ PySem.W.findIn K (.ref C) f = some none ∧ H a = some (exo a C none) ∧
  ∀ d, H d = none → d ≠ a → Q .non (upd (upd H d (exd d [(f, y)])) a (exo a C (some d)))
section
variable {P : Program} {w : World} {K : PySem.W.Frag} {mg : Str → Option Value} {base : Heap}
theorem exinitG_ok {CX : CXT} {x qual f p : Str} {params : Arguments} {scope : Scope} {fa : Addr} {fd : FuncData} {k : Nat} {p1 p2 p3 p4 : Pos} (F : FunD K x qual params [.Assign [.Attribute (.Name "self" p1) f p2] (.Name p p3) p4] scope [] [] fa fd)
    (S : FnScope [("self" : Str), p] [("self" : Str), p] scope) (hs : scope.names.lookup ("self" : Str) = some .local) (hp : scope.names.lookup p = some .local) (hd : (p == ("__debug__" : Str)) = false) (hcd : (p == ("__classdict__" : Str)) = false) :
    FnOk P w K mg base CX (k + 1) fa fd [("self" : Str), p] (initG K f) := by
  refine FunD.ok F S (fun vs H Q E ⟨a, C, y, e, _⟩ => by rw [e]; rfl) fun cdv A outer s H vs Q E hr ⟨a, C, y, ev, T, hno, ha, hq⟩ => ⟨_, pss_cons (ps_ostG (pe_var (i := 0) rfl (Or.inl hs) (by decide) (by decide)) (pe_var (i := 1) rfl (Or.inl hp) hd hcd)) pss_nil, ?_⟩
  subst ev
  exact ⟨y, rfl, .ref a, rfl, a, C, rfl, T, hno, ha, fun d h1 h2 => hq d h1 h2⟩
end
end Br
end
section
namespace Br
open PySem PySem.Spec PyProof.Rows L2
/-! ### exceptions as data: C(e), C(f = e), C() -/
/-- the class C: its __init__ keeps the field f, its parameter is p -/
structure ExcM (X : Cx) (x f p : Str) : Prop where
  T : OexG X.K (He.ga X.K x)
  no : PySem.W.findIn X.K (.ref (He.ga X.K x)) f = some none
  ini : ∃ (fI : Addr) (fd : FuncData) (k : Nat), PySem.W.findIn X.K (.ref (He.ga X.K x)) "__init__" = some (some (.ref fI)) ∧ PySem.W.typeIn X.K (.ref fI) = some (.type "function") ∧
    FnOk X.prog X.w X.K X.mg X.base (fun _ _ _ _ _ _ => False) k fI fd [("self" : Str), p] (initG X.K f) ∧ Room (k + 1) X.A ∧
    (∀ (s : Shared) (a u : Value), X.K.In s.heap → BindsTo s fd ⟨[a, u], []⟩ ([("self" : Str), p].zip [a, u])) ∧ ∀ (s : Shared) (a u : Value), X.K.In s.heap → BindsTo s fd ⟨[a], [(p, u)]⟩ ([("self" : Str), p].zip [a, u])
theorem exd_ne {d : Addr} {fs : List (Str × V)} {o : Obj} {u : HO} : exd d fs ≠ .frz o u := fun z => by
  have z' : HO.ext _ = HO.frz o u := z
  cases z'
theorem mk_keep {X : Cx} {pins : List (Addr × Obj)} {σ : L2.St} {H1 : Hp} {hp hp2 h2 : Heap} {g1 g2 : Array GenState} {d1 d2 : Drawn} {t1 t2 : Nat} {os1 os2 : OsState} {a C d : Addr} {f : Str} {y : V} (I1 : Inv X pins σ H1 ⟨hp, g1, d1, t1, os1⟩)
    (ha : hp.objs.size ≤ a) (k : ∀ b o, hp.get? b = some o → hp2.get? b = some o) (un : Un (frs X.stack) [] (upd H1 a (exo a C none)) (upd (upd (upd H1 a (exo a C none)) d (exd d [(f, y)])) a (exo a C (some d))) hp2 h2)
    (hok : HOk X.prog X.w (upd (upd (upd H1 a (exo a C none)) d (exd d [(f, y)])) a (exo a C (some d))) h2) (ho : os2 = os1) (hb : AllBare g2) (hd1 : H1 d = none) (hda : d ≠ a) :
    ∃ (oe od : Obj) (fv : Array Value), oe.cls = .ref C ∧ oe.dict = some d ∧ oe.data = .fields fv ∧ Inv X pins σ (upd (upd H1 d (.frz od (.xd [(f, y)]))) a (.frz oe (exo a C (some d)))) ⟨h2, g2, d2, t2, os2⟩ := by
  have ea : (upd (upd (upd H1 a (exo a C none)) d (exd d [(f, y)])) a (exo a C (some d))) a = some (exo a C (some d)) := upd_same
  have ed : (upd (upd (upd H1 a (exo a C none)) d (exd d [(f, y)])) a (exo a C (some d))) d = some (exd d [(f, y)]) := by rw [upd_ne hda, upd_same]
  have eo : ∀ b, b ≠ a → b ≠ d → (upd (upd (upd H1 a (exo a C none)) d (exd d [(f, y)])) a (exo a C (some d))) b = H1 b := fun b h1 h2 => by rw [upd_ne h1, upd_ne h2, upd_ne h1]
  obtain ⟨t0, hoe⟩ := exo_at hok ea
  obtain ⟨mA, hns, rel⟩ := exd_at hok ed
  obtain ⟨od, es, ep, e1, e2⟩ := id hns
  have hn : H1 a = none := I1.hok.fresh ha
  have nha : ∀ {b : Addr} {o : Obj}, hp.get? b = some o → b ≠ a := fun {b o} z => Nat.ne_of_lt (Nat.lt_of_lt_of_le (Heap.lt_size z) ha)
  have up : ∀ {b : Addr}, b ≠ a → H1 b = none → upd H1 a (exo a C none) b = none := fun {b} hb n => by rw [upd_ne hb]; exact n
  have nd : ∀ {b : Addr} {o : Obj}, hp.get? b = some o → H1 b = none → b ≠ d := fun {b o} z n e => by
    have y := un.free b o (k b o z) (up (nha z) n) (by simp)
    rw [e, ed] at y
    cases y
  refine ⟨({ cls := .ref C, dict := some d, data := .fields #[.ref t0, .none, .none, .none, .bool false, .none] } : Obj), od, #[.ref t0, .none, .none, .none, .bool false, .none], rfl, rfl, rfl, ?_⟩
  have e3 : ∀ b, b ≠ a → b ≠ d → (upd (upd H1 d (.frz od (.xd [(f, y)]))) a (.frz ({ cls := .ref C, dict := some d, data := .fields #[.ref t0, .none, .none, .none, .bool false, .none] } : Obj) (exo a C (some d)))) b = H1 b := fun b h1 h2 => by rw [upd_ne h1, upd_ne h2]
  have U : Un (frs X.stack) [] H1 (upd (upd H1 d (.frz od (.xd [(f, y)]))) a (.frz ({ cls := .ref C, dict := some d, data := .fields #[.ref t0, .none, .none, .none, .bool false, .none] } : Obj) (exo a C (some d)))) hp h2 := {
    keep := fun b o z n hf hx => un.keep b o (k b o z) (up (nha z) n) hf hx
    slot := fun b o z n hf hx => un.slot b o (k b o z) (up (nha z) n) hf hx
    free := fun b o z n hx => by rw [e3 b (nha z) (nd z n)]; exact n
    there := fun b o z hx => un.there b o (k b o z) hx
    tups := fun b xs z => by rw [e3 b (ne_of_none z hn) (ne_of_none z hd1)]; exact z
    frzs := fun b o v z => by rw [e3 b (ne_of_none z hn) (ne_of_none z hd1)]; exact z
    tbls := fun b ps z => by
      obtain ⟨more, q⟩ := un.tbls b ps (by rw [upd_ne (ne_of_none z hn)]; exact z)
      rw [eo b (ne_of_none z hn) (ne_of_none z hd1)] at q
      exact ⟨more, by rw [e3 b (ne_of_none z hn) (ne_of_none z hd1)]; exact q⟩ }
  have hok3 : HOk X.prog X.w (upd (upd H1 d (.frz od (.xd [(f, y)]))) a (.frz ({ cls := .ref C, dict := some d, data := .fields #[.ref t0, .none, .none, .none, .bool false, .none] } : Obj) (exo a C (some d)))) h2 := fun b o z => by
    by_cases hba : b = a
    · subst hba
      rw [upd_same] at z
      cases z
      exact ⟨hoe, exo_ok hoe⟩
    · by_cases hbd : b = d
      · subst hbd
        rw [upd_ne hda, upd_same] at z
        cases z
        exact ⟨e1, mA, hns, rel⟩
      · have z' := z
        rw [e3 b hba hbd] at z'
        rw [← eo b hba hbd] at z'
        refine (hok b o z').stay (fun c v hc y => y) (fun c hc => ?_) (fun c xs hc => ?_)
        · have h1 : c ≠ a := at_ne ea hc exo_own
          have h2 : c ≠ d := at_ne ed hc exd_own
          rw [e3 c h1 h2, ← eo c h1 h2]; exact hc
        · have h1 : c ≠ a := at_ne ea hc exo_tup
          have h2 : c ≠ d := at_ne ed hc exd_tup
          rw [e3 c h1 h2, ← eo c h1 h2]; exact hc
  exact I1.call' (ch := []) ho U hok3 hb (fun b z => absurd z (by simp))
section
variable {X : Cx}
theorem run_mkG {pins : List (Addr × Obj)} {σ : L2.St} {H1 : Hp} {s1 : Shared} {Q : VK} {us : List Value} {kws : List (Str × Value)} {u : Value} {y : V} {C fI : Addr} {k : Nat} {fd : FuncData} {f p : Str} (T : OexG X.K C) (iC : PySem.W.findIn X.K (.ref C) "__init__" = some (some (.ref fI))) (tI : PySem.W.typeIn X.K (.ref fI) = some (.type "function"))
    (F1 : FnOk X.prog X.w X.K X.mg X.base (fun _ _ _ _ _ _ => False) k fI fd [("self" : Str), p] (initG X.K f)) (hr : Room (k + 1) X.A) (hno : PySem.W.findIn X.K (.ref C) f = some none)
    (hb : ∀ (s : Shared) (a : Value), X.K.In s.heap → BindsTo s fd ⟨a :: us, kws⟩ ([("self" : Str), p].zip [a, u])) (ry : RelV y u) (I1 : Inv X pins σ H1 s1) (hus : us.length ≤ sizeLine)
    (q : ∀ (a d : Addr) (oe od : Obj) (fv : Array Value), H1 a = none → H1 d = none → d ≠ a → oe.cls = .ref C → oe.dict = some d → oe.data = .fields fv → Q (.ref a) (upd (upd H1 d (.frz od (.xd [(f, y)]))) a (.frz oe (exo a C (some d))))) :
    wpAny (model X.prog X.w) X.A (call (.ref C) us kws) (EP X pins σ Q) X.xe s1 := by
  obtain ⟨nm, q0, N, bs, bm, sn, sub, ab, col, dd, k0, k1, k2, k3, k5, B, newId, initId, bmB, hC, hbm, F, hB⟩ := T.cls
  obtain ⟨_, hA, hN⟩ := BrX.tails_ob hbm
  obtain ⟨hp, g, dr, tk, os⟩ := s1
  generalize ho : hp.objs.size = z at *
  have hsz : hp.objs.size ≤ z + 1 := by omega
  have hn : H1 (z + 1) = none := I1.hok.fresh hsz
  have kk : ∀ b o, hp.get? b = some o → ((hp.push (PySem.W.kdv_tup us)).push (PySem.HandSPX.excO C z)).get? b = some o := fun b o y => Heap.get?_push_of_some _ (Heap.get?_push_of_some _ y)
  have hget : ((hp.push (PySem.W.kdv_tup us)).push (PySem.HandSPX.excO C z)).get? (z + 1) = some (PySem.HandSPX.excO C z) := by
    rw [← ho]; heap_get
  have I2 : Inv X pins σ (upd H1 (z + 1) (exo (z + 1) C none)) ⟨(hp.push (PySem.W.kdv_tup us)).push (PySem.HandSPX.excO C z), g, dr, tk, os⟩ :=
    I1.laid (t' := tk) (a := z + 1) (o := exo (z + 1) C none) (h' := (hp.push (PySem.W.kdv_tup us)).push (PySem.HandSPX.excO C z)) kk hsz (exo_ok hget)
  have r2 : Vals [V.ref (z + 1), y] [Value.ref (z + 1), u] := .cons rfl (.cons ry .nil)
  have b2 := hb _ (Value.ref (z + 1)) I2.kIn
  have hsp : initG X.K f [V.ref (z + 1), y] (upd H1 (z + 1) (exo (z + 1) C none)) (fun v H2 => v = .non ∧ ∃ d, H1 d = none ∧ d ≠ z + 1 ∧ H2 = upd (upd (upd H1 (z + 1) (exo (z + 1) C none)) d (exd d [(f, y)])) (z + 1) (exo (z + 1) C (some d))) (fun _ _ _ => False) :=
    ⟨z + 1, C, y, rfl, T, hno, upd_same, fun d h1 h2 => ⟨rfl, d, by rw [upd_ne h2] at h1; exact h1, h2, rfl⟩⟩
  subst ho
  refine wpAny_call (BrX.call_g F hB hA hN (I1.kIn _ _ hC) (PySem.W.looks_findIn I1.kIn iC) (fun self => PySem.W.bind_fn I1.kIn self tI) hus
    (codeAny_mono (F1.run _ X.stack _ _ ⟨Value.ref (hp.objs.size + 1) :: us, kws⟩ [Value.ref (hp.objs.size + 1), u] _ _ (fun _ _ _ => False) (hr.make C us kws) (I2.env0.make C us kws) b2 r2 hsp) fun r s' hq' => ?_))
  cases r with
  | error er => exact False.elim hq'
  | ok fl =>
    cases fl with
    | ret v0 =>
      obtain ⟨v, H2, os2, bare2, un2, hok2, rv2, ev, d, hd1, hda, e2⟩ := hq'
      subst ev e2
      obtain ⟨h2, g2, d2, t2, os'⟩ := s'
      obtain ⟨oe, od, fv, c1, c2, c3, J⟩ := mk_keep (d2 := d2) (t2 := t2) I1 hsz kk un2 hok2 os2 bare2 hd1 hda
      exact ⟨rv2, ⟨V.ref (hp.objs.size + 1), _, J, rfl, q _ d oe od fv hn hd1 hda c1 c2 c3⟩⟩
    | next => exact False.elim hq'
    | brk => exact False.elim hq'
    | cont => exact False.elim hq'
end
section
variable {X : Cx} {W : WX}
def gMkG (x f : Str) : FL := fun ds M => match ds with
  | [d] => .ok (.exc x f [d]) M
  | _ => .no
theorem exc_dv {μ : Nat → Addr} {N : Nat} {H1 : Hp} {a d : Addr} {oe od : Obj} {fv : Array Value} {x f : Str} {K : PySem.W.Frag} {v : V} {dt : D} (u : HO) (q : DV K μ N H1 dt v) (h1 : H1 a = none) (h2 : H1 d = none) (h3 : d ≠ a) (c1 : oe.cls = .ref (He.ga K x)) (c2 : oe.dict = some d) (c3 : oe.data = .fields fv) :
    DV K μ N (upd (upd H1 d (.frz od (.xd [(f, v)]))) a (.frz oe u)) (.exc x f [dt]) (.ref a) ∧ Lift μ N H1 μ N (upd (upd H1 d (.frz od (.xd [(f, v)]))) a (.frz oe u)) := by
  have l1 : Lift μ N H1 μ N (upd H1 d (.frz od (.xd [(f, v)]))) := Lift.fresh h2
  have l2 : Lift μ N (upd H1 d (.frz od (.xd [(f, v)]))) μ N (upd (upd H1 d (.frz od (.xd [(f, v)]))) a (.frz oe u)) := Lift.fresh (by rw [upd_ne (Ne.symm h3)]; exact h1)
  refine ⟨?_, l1.trans l2⟩
  unfold DV
  exact ⟨a, oe, u, fv, [v], rfl, upd_same, c1, c3, DVs.cons (q.lift (l1.trans l2)) DVs.nil, .inr ⟨v, d, od, rfl, c2, by rw [upd_ne h3, upd_same]⟩⟩
theorem me_mkG {x f pn : Str} {e : Expr} {g : FA} {p pos : Pos} (c : ExcM X x f pn) (hg : Gl X x) (hm : X.mg x = some (.ref (He.ga X.K x))) (ha : MA X W [e] g)
    (hdb : (x == ("__debug__" : Str)) = false := by decide) (he : starEach [e] X.env = (false, eval e X.env) :: starEach [] X.env := by rfl) (hpl : (backTo pos (starEach [] X.env)).any (·.1) = false := by rfl) : ME X W (.Call (.Name x p) [e] [] pos) (eL (gMkG x f) g) := by
  obtain ⟨fI, fd, k, iC, tI, F1, hr, hb, _⟩ := c.ini
  refine ⟨fun pins s σ H Q I h => ?_⟩
  refine wpAny_Call_Name_kw (ld_glob I hg hm ?_ hdb)
  refine PySem.W.callWith_K (h₀ := X.base) I.ok.mod.kin c.T.kC (thn (ha.run pos pins s σ H _ I (tM.seq (rel := DVs X.K) h)) fun us s1 ⟨vs, H1, I1, rv, q⟩ => ⟨I1.kIn, ?_⟩) he hpl
  obtain ⟨μ, M, ρ, ds, r1, e1, q1, a⟩ := q
  unfold gMkG at a
  split at a
  · rename_i d0
    obtain ⟨v, r', e2, q2, q3⟩ := q1.inv_cons
    rw [e2, q3.inv_nil] at rv
    obtain ⟨u, rfl, ru⟩ := vals1 rv
    · skip
      refine run_mkG (us := [u]) (kws := []) c.T iC tI F1 hr c.no (fun s a h => hb s a u h) ru I1 (by show 1 ≤ sizeLine; rw [sizeLine_eq]; decide) fun ad dd oe od fv h1 h2 h3 c1 c2 c3 => ?_
      obtain ⟨z1, z2⟩ := exc_dv (od := od) (f := f) (exo ad (He.ga X.K x) (some dd)) q2 h1 h2 h3 c1 c2 c3
      refine a μ _ _ z2 ?_ z1
      exact (r1.fresh h2).fresh (by rw [upd_ne (Ne.symm h3)]; exact h1)
  · exact a.elim
theorem me_mkGK {x f pn : Str} {kws : List Keyword} {g : FA} {p pos : Pos} (c : ExcM X x f pn) (hg : Gl X x) (hm : X.mg x = some (.ref (He.ga X.K x))) (hkw : MK X W kws g)
    (hall : (backToKw pos (keywordEach kws X.env)).all (·.1.isSome) = true := by rfl) (hks : (backToKw pos (keywordEach kws X.env)).filterMap (·.1) = [pn] := by rfl)
    (hdb : (x == ("__debug__" : Str)) = false := by decide) (hpl : ((backTo pos (starEach [] X.env)).any (·.1) || (backToKw pos (keywordEach kws X.env)).any (·.1.isNone)) = false := by rfl) : ME X W (.Call (.Name x p) [] kws pos) (eL (gMkG x f) g) := by
  obtain ⟨fI, fd, k, iC, tI, F1, hr, _, hb⟩ := c.ini
  refine ⟨fun pins s σ H Q I h => ?_⟩
  refine wpAny_Call_Name_kw (ld_glob I hg hm ?_ hdb)
  refine PySem.W.callWith_KW0 (h₀ := X.base) I.ok.mod.kin c.T.kC hall (thn (hkw.run pos pins s σ H _ I (tM.seq (rel := DVs X.K) h)) fun ws s1 ⟨vs, H1, I1, rv, q⟩ => ⟨I1.kIn, ?_⟩) hpl
  rw [hks]
  obtain ⟨μ, M, ρ, ds, r1, e1, q1, a⟩ := q
  unfold gMkG at a
  split at a
  · rename_i d0
    obtain ⟨v, r', e2, q2, q3⟩ := q1.inv_cons
    rw [e2, q3.inv_nil] at rv
    obtain ⟨u, rfl, ru⟩ := vals1 rv
    · skip
      refine run_mkG (us := []) (kws := [(pn, u)]) c.T iC tI F1 hr c.no (fun s a h => hb s a u h) ru I1 (by decide) fun ad dd oe od fv h1 h2 h3 c1 c2 c3 => ?_
      obtain ⟨z1, z2⟩ := exc_dv (od := od) (f := f) (exo ad (He.ga X.K x) (some dd)) q2 h1 h2 h3 c1 c2 c3
      refine a μ _ _ z2 ?_ z1
      exact (r1.fresh h2).fresh (by rw [upd_ne (Ne.symm h3)]; exact h1)
  · exact a.elim
/-- a class without an __init__ of its own -/
structure ExcM0 (K : PySem.W.Frag) (C : Addr) : Prop where
  T : ∃ B newId initId bmB, ExcBaseFacts B newId initId bmB ∧ PySem.W.excIn K C bmB newId = true
  kC : PySem.W.keepIn K (.ref C) = true
def gMk0 (x : Str) : FL := fun ds M => match ds with
  | [] => .ok (.exc x "" []) M
  | _ => .no
theorem me_mkG0 {x : Str} {p pos : Pos} (c : ExcM0 X.K (He.ga X.K x)) (hg : Gl X x) (hm : X.mg x = some (.ref (He.ga X.K x))) (hdb : (x == ("__debug__" : Str)) = false := by decide) : ME X W (.Call (.Name x p) [] [] pos) (eL (gMk0 x) aN) := by
  obtain ⟨B, newId, initId, bmB, F, q⟩ := c.T
  refine ⟨fun pins s σ H Q I ⟨μ, M, ρ, r1, e1, a⟩ => ?_⟩
  refine wpAny_Call_Name_kw (ld_glob I hg hm ?_ hdb)
  refine PySem.W.callWith_K0 I.kIn c.kC ?_
  show wpAny _ _ (call (.ref (He.ga X.K x)) []) _ _ _
  obtain ⟨bm, N, nm, qn, bs, hdct, sn, sub, ab, col, dd, k0, k1, k2, k3, k5, mN, hC, hN, hni, T⟩ := exc_obj I.kIn q
  refine wpAny_call_exc_subT F T hC hN hni (fun h' e hm => ?_) (by decide)
  obtain ⟨t, he, _, _⟩ := hm.there
  have na : H e = none := I.hok.gone hm.new
  have J : Inv X pins σ (upd H e (.frz ({ cls := .ref (He.ga X.K x), data := .fields #[.ref t, .none, .none, .none, .bool false, .none] } : Obj) (exo e (He.ga X.K x) none))) { s with heap := h' } :=
    I.un (t' := s.toks) (Un.laidN hm.keeps hm.new na) (I.hok.laidN hm.keeps na ⟨he, exo_ok he⟩)
  refine ⟨.ref e, _, J, rfl, ?_⟩
  refine a μ _ _ (Lift.fresh na) (r1.fresh na) ?_
  unfold DV
  exact ⟨e, _, _, _, [], rfl, upd_same, rfl, rfl, DVs.nil, .inl ⟨rfl, rfl⟩⟩
end
end Br
end
section
namespace Br
open PySem PySem.Spec PyProof.Rows L2
/-! ### exceptions as data: isinstance, e.f -/
abbrev XTab := List (Str × List (Str × Bool) × List (String × Bool))
def XTabOk (K : PySem.W.Frag) (tab : XTab) : Prop := ∀ c own bt, tab.lookup c = some (own, bt) → ExcT K (He.ga K c) ∧ ExcQ K (He.ga K c) own bt
def gIsiX (tab : XTab) : FL := fun ds M => match ds with
  | [.exc c _ _, .gl g] => (match tab.lookup c with
    | some q => (match q.1.lookup g with
      | some k => .ok (.bl k) M
      | none => .no)
    | none => .no)
  | [.exc c _ _, .ty t] => (match tab.lookup c with
    | some q => (match q.2.lookup t with
      | some k => .ok (.bl k) M
      | none => .no)
    | none => .no)
  | ds => gIsi ds M
section
variable {X : Cx}
theorem cm_isiX {tab : XTab} (ht : XTabOk X.K tab) : CallM X (.builtin "isinstance") (gIsiX tab) := by
  intro W pins s σ H xs us Q I rv ⟨μ, M, as, r, q, an⟩
  have fin : ∀ {c f : Str} {ds : List D} {v : V} {u cv : Value} {k : Bool}, DV X.K μ M.length H (.exc c f ds) v → RelV v u → ExcT X.K (He.ga X.K c) → PySem.W.kitOne X.K (.ref (He.ga X.K c)) cv = some k → (∀ tk, EP X pins σ Q (.bool k) { s with toks := tk }) → wpAny (model X.prog X.w) X.A (call (.builtin "isinstance") [u, cv]) (EP X pins σ Q) X.xe s := fun {c f ds v u cv k} qv ru T e hQ => by
    unfold DV at qv
    obtain ⟨a, oe, u0, vs, xs, rfl, h1, h2, h3, _, h5⟩ := qv
    obtain rfl : u = Value.ref a := ru
    have hoe : s.heap.get? a = some oe := (I.hok a _ h1).1
    rcases h5 with ⟨_, hd⟩ | ⟨x, dx, od, _, hd, hdx⟩
    · have J : PySem.W.InstAt s.heap a oe (He.ga X.K c) none := ⟨hoe, h2, by unfold PySem.W.notCls; rw [h3], by rw [hd]; trivial⟩
      exact PySem.W.kia_one (PySem.W.kitx_exc T.cl T.hga T.hgt T.hsub T.ha T.hn T.ht T.hm) I.kIn J e (fun z => nomatch z) hQ
    · have hod : s.heap.get? dx = some od := (I.hok dx _ hdx).1
      have J : PySem.W.InstAt s.heap a oe (He.ga X.K c) (some od) := ⟨hoe, h2, by unfold PySem.W.notCls; rw [h3], by rw [hd]; exact hod⟩
      exact PySem.W.kia_one (PySem.W.kitx_exc T.cl T.hga T.hgt T.hsub T.ha T.hn T.ht T.hm) I.kIn J e (fun z => nomatch z) hQ
  unfold gIsiX at an
  split at an
  · rename_i c f ds g
    split at an
    · rename_i q0 hq0
      obtain ⟨T, hq⟩ := ht c q0.1 q0.2 hq0
      split at an
      · rename_i k hk
        obtain ⟨v, r', e, q1, q2⟩ := q.inv_cons
        obtain ⟨v2, r2, e2, q3, q4⟩ := q2.inv_cons
        rw [e, e2, q4.inv_nil, gl_dv q3] at rv
        obtain ⟨u1, u2, rfl, ru1, ru2⟩ := vals2 rv
        obtain rfl : u2 = Value.ref (He.ga X.K g) := ru2
        exact fin q1 ru1 T (hq.own g k hk) fun tk => ⟨.bl k, H, I.tok tk, rfl, ans_pure r dv_bl an⟩
      · exact an.elim
    · exact an.elim
  · rename_i c f ds t
    split at an
    · rename_i q0 hq0
      obtain ⟨T, hq⟩ := ht c q0.1 q0.2 hq0
      split at an
      · rename_i k hk
        obtain ⟨v, r', e, q1, q2⟩ := q.inv_cons
        obtain ⟨v2, r2, e2, q3, q4⟩ := q2.inv_cons
        rw [e, e2, q4.inv_nil, ty_dv q3] at rv
        obtain ⟨u1, u2, rfl, ru1, ru2⟩ := vals2 rv
        have ru2' : u2 = Value.type t := ru2
        subst ru2'
        exact fin q1 ru1 T (hq.bt t k hk) fun tk => ⟨.bl k, H, I.tok tk, rfl, ans_pure r dv_bl an⟩
      · exact an.elim
    · exact an.elim
  · exact cm_isi W pins s σ H xs us Q I rv ⟨μ, M, _, r, q, an⟩
end
/-- the classes cs, whose exceptions keep the field f -/
def FldX (K : PySem.W.Frag) (cs : List Str) (f : Str) : Prop := ∀ c, c ∈ cs → XfC K (He.ga K c) ∧ PySem.W.findIn K (.ref (He.ga K c)) f = some none
theorem FldX.cons {K : PySem.W.Frag} {f c : Str} {cs : List Str} (h1 : XfC K (He.ga K c)) (h2 : PySem.W.findIn K (.ref (He.ga K c)) f = some none) (t : FldX K cs f) : FldX K (c :: cs) f := fun b h => by
  rcases List.mem_cons.mp h with rfl | h
  · exact ⟨h1, h2⟩
  · exact t b h
theorem FldX.nil {K : PySem.W.Frag} {f : Str} : FldX K [] f := fun c h => by cases h
def eFldX (cs : List Str) (f : Str) (a : FE) : FE := fun ρ M => (a ρ M).bind fun x M1 => match x with
  | .exc c g [d] => if c ∈ cs ∧ g = f then .ok d M1 else .no
  | _ => .no
section
variable {X : Cx} {W : WX} {e : Expr} {fe : FE} {pos : Pos}
theorem me_fldX {cs : List Str} {f : Str} (hc : FldX X.K cs f) (ha : ME X W e fe) (hb : attributeBase e f X.env (eval e X.env) = eval e X.env := by rfl) : ME X W (.Attribute e f pos) (eFldX cs f fe) := by
  refine ⟨fun pins s σ H Q I h => ?_⟩
  refine attr_of hb (thn (ha.run pins s σ H _ I (tM.seq (rel := DV X.K) h)) fun u s1 ⟨v, H1, I1, rv, μ, M, ρ, d, r, ev, q, a⟩ => ?_)
  split at a
  · rename_i c g d0
    split at a
    · rename_i hcg
      obtain ⟨hcm, rfl⟩ := hcg
      obtain ⟨T, hno⟩ := hc c hcm
      unfold DV at q
      obtain ⟨a0, oe, u0, vs, xs, rfl, h1, h2, h3, h4, h5⟩ := q
      obtain rfl : u = Value.ref a0 := rv
      obtain ⟨v1, r', e1, q1, q2⟩ := h4.inv_cons
      rw [e1, q2.inv_nil] at h5
      rcases h5 with ⟨z, _⟩ | ⟨x, dx, od, z, hd, hdx⟩
      · cases z
      · cases z
        have hoe : s1.heap.get? a0 = some oe := (I1.hok a0 _ h1).1
        have hod : s1.heap.get? dx = some od := (I1.hok dx _ hdx).1
        obtain ⟨mA, hns, hr⟩ := (I1.hok dx _ hdx).2
        obtain ⟨od2, ho, hl⟩ := lookIn_ns hns
        rw [hod] at ho
        cases ho
        obtain ⟨u, hu, ru⟩ := RelO.some_of (v := v1) (o := mA g) (by have := hr g; simpa using this)
        have J : PySem.W.InstAt s1.heap a0 oe (He.ga X.K c) (some od) := ⟨hoe, h2, by unfold PySem.W.notCls; rw [h3], by rw [hd]; exact hod⟩
        exact HandSPX.exc_get I1.kIn J T.ga T.gg T.exC (PySem.W.findObj_own T.hdC hno rfl (by rw [hl, hu])) (handed_of ru) ⟨v1, H1, I1.tok _, ru, a μ _ _ (Lift.refl ..) r q1⟩
    · exact a.elim
  · exact a.elim
end
end Br
end
section
namespace BrH
open PySem PySem.Spec PyProof.Rows L2 Br He
/-- the built-in class that a __new__ belongs to -/
def newsE : List (String × String) := [("ValueError.__new__", "ValueError"), ("TypeError.__new__", "TypeError"), ("IndexError.__new__", "IndexError"), ("LookupError.__new__", "LookupError"), ("OverflowError.__new__", "OverflowError"), ("RuntimeError.__new__", "RuntimeError")]
theorem newsE_ok {n B : String} (h : newsE.lookup n = some B) : ∃ initId bmB, ExcBaseFacts B n initId bmB := by
  unfold newsE at h
  simp only [List.lookup_cons, List.lookup_nil] at h
  repeat' split at h
  all_goals first
    | (rename_i e; have e' := eq_of_beq e; subst e'; cases h; exact ⟨_, _, F.excBase_ValueError⟩)
    | (rename_i e; have e' := eq_of_beq e; subst e'; cases h; exact ⟨_, _, F.excBase_TypeError⟩)
    | (rename_i e; have e' := eq_of_beq e; subst e'; cases h; exact ⟨_, _, F.excBase_IndexError⟩)
    | (rename_i e; have e' := eq_of_beq e; subst e'; cases h; exact ⟨_, _, F.excBase_LookupError⟩)
    | (rename_i e; have e' := eq_of_beq e; subst e'; cases h; exact ⟨_, _, F.excBase_OverflowError⟩)
    | (rename_i e; have e' := eq_of_beq e; subst e'; cases h; exact ⟨_, _, F.excBase_RuntimeError⟩)
    | cases h
/-- an own class right under a built-in one -/
def oexB (K : PySem.W.Frag) (C : Addr) : Bool := (match K.lookup C with
    | some ⟨.type "type", _, .cls cd, sl⟩ => (match cd.mro, sl.toList with
      | .ref C' :: bm, [_, _, _, _, some (.builtin n), _] => C' == C && !cd.hasDel && cd.hasDict && BrX.tailsE.contains bm && (match newsE.lookup n with
        | some B => bm.contains (.type B)
        | none => false)
      | _, _ => false)
    | _ => false) && ((match PySem.W.findIn K (.ref C) "__setattr__" with
    | some (some v) => v == .builtin "object.__setattr__"
    | _ => false) && ((PySem.W.subIn K (.ref C) (.type "BaseException") == some true) && ((match PySem.W.typeIn K (.ref C) with
    | some v => v == .type "type"
    | _ => false) && PySem.W.keepIn K (.ref C))))
theorem oexB_ok {K : PySem.W.Frag} {C : Addr} (h : oexB K C = true) : OexG K C := by
  unfold oexB at h
  obtain ⟨h1, h⟩ := Bool.and_eq_true_iff.mp h
  obtain ⟨h2, h⟩ := Bool.and_eq_true_iff.mp h
  obtain ⟨h3, h⟩ := Bool.and_eq_true_iff.mp h
  obtain ⟨h4, h5⟩ := Bool.and_eq_true_iff.mp h
  have e2 : PySem.W.findIn K (.ref C) "__setattr__" = some (some (.builtin "object.__setattr__")) := by
    split at h2
    · rename_i v e; rw [e, beq_iff_eq.mp h2]
    · cases h2
  have e4 : PySem.W.typeIn K (.ref C) = some (.type "type") := by
    split at h4
    · rename_i v e; rw [e, beq_iff_eq.mp h4]
    · cases h4
  refine ⟨?_, e2, beq_iff_eq.mp h3, e4, h5⟩
  split at h1
  · rename_i dd cd sl ho
    split at h1
    · rename_i C' bm k0 k1 k2 k3 n k5 hm hs
      rw [Bool.and_eq_true] at h1
      obtain ⟨h1, hn⟩ := h1
      simp only [Bool.and_eq_true, beq_iff_eq, Bool.not_eq_true'] at h1
      obtain ⟨⟨⟨rfl, hdel⟩, hdict⟩, ht⟩ := h1
      split at hn
      · rename_i B hB
        obtain ⟨initId, bmB, F⟩ := newsE_ok hB
        obtain ⟨nm, bs, mro, ns, qn, hd, sn, sub, ab, col, del⟩ := cd
        dsimp only at hm hdel hdict
        subst hm hdel hdict
        have hsl : sl = #[k0, k1, k2, k3, some (.builtin n), k5] := by
          obtain ⟨l⟩ := sl
          simp only at hs
          rw [hs]
        subst hsl
        exact ⟨nm, qn, ns, bs, bm, sn, sub, ab, col, dd, k0, k1, k2, k3, k5, B, n, initId, bmB, ho, ht, F, hn⟩
      · cases hn
    · cases h1
  · cases h1
/-- no attribute of the class is called f -/
def noB (K : PySem.W.Frag) (C : Addr) (f : Str) : Bool := match PySem.W.findIn K (.ref C) f with
  | some none => true
  | _ => false
theorem noB_ok {K : PySem.W.Frag} {C : Addr} {f : Str} (h : noB K C f = true) : PySem.W.findIn K (.ref C) f = some none := by
  unfold noB at h
  split at h
  · rename_i e; exact e
  · cases h
structure ExcG (K : PySem.W.Frag) (C : Addr) (f : Str) : Prop where
  T : OexG K C
  no : PySem.W.findIn K (.ref C) f = some none
def excGB (K : PySem.W.Frag) (C : Addr) (f : Str) : Bool := oexB K C && noB K C f
theorem excGB_ok {K : PySem.W.Frag} {C : Addr} {f : Str} (h : excGB K C f = true) : ExcG K C f := by
  unfold excGB at h
  obtain ⟨h1, h2⟩ := Bool.and_eq_true_iff.mp h
  exact ⟨oexB_ok h1, noB_ok h2⟩
def exc0B (K : PySem.W.Frag) (C : Addr) : Bool := (PySem.W.excIn K C (.type "ValueError" :: BrX.ebase) "ValueError.__new__" || (PySem.W.excIn K C (.type "LookupError" :: BrX.ebase) "LookupError.__new__" || PySem.W.excIn K C (.type "RuntimeError" :: BrX.ebase) "RuntimeError.__new__")) && PySem.W.keepIn K (.ref C)
theorem exc0B_ok {K : PySem.W.Frag} {C : Addr} (h : exc0B K C = true) : ExcM0 K C := by
  unfold exc0B at h
  obtain ⟨h1, h2⟩ := Bool.and_eq_true_iff.mp h
  refine ⟨?_, h2⟩
  rcases Bool.or_eq_true_iff.mp h1 with h | h
  · exact ⟨_, _, _, _, F.excBase_ValueError, h⟩
  · rcases Bool.or_eq_true_iff.mp h with h | h
    · exact ⟨_, _, _, _, F.excBase_LookupError, h⟩
    · exact ⟨_, _, _, _, F.excBase_RuntimeError, h⟩
def xtabB (K : PySem.W.Frag) (tab : XTab) : Bool := tab.all fun q => excTB K (He.ga K q.1) && excQB K (He.ga K q.1) q.2.1 q.2.2
theorem xtabB_ok {K : PySem.W.Frag} {tab : XTab} (h : xtabB K tab = true) : XTabOk K tab := by
  intro c own bt hl
  have key : ∀ l : XTab, l.lookup c = some (own, bt) → (c, own, bt) ∈ l := by
    intro l
    induction l with
    | nil => intro h; cases h
    | cons q r ih =>
      intro h
      obtain ⟨a, b⟩ := q
      rw [List.lookup_cons] at h
      split at h
      · rename_i hb
        cases h
        rw [eq_of_beq hb]; simp
      · exact List.mem_cons_of_mem _ (ih h)
  have := List.all_eq_true.mp h _ (key tab hl)
  obtain ⟨h1, h2⟩ := Bool.and_eq_true_iff.mp this
  exact ⟨excTB_ok h1, excQB_ok h2⟩
def xfB' (K : PySem.W.Frag) (C : Addr) : Bool := (match PySem.W.findIn K (.ref C) "__getattribute__" with
    | some (some v) => v == .builtin "BaseException.__getattribute__"
    | _ => false) && (noB K C "__getattr__" && ((PySem.W.subIn K (.ref C) (.type "BaseException") == some true) && PySem.W.hasDictIn K C))
theorem xfB'_ok {K : PySem.W.Frag} {C : Addr} (h : xfB' K C = true) : XfC K C := by
  unfold xfB' at h
  obtain ⟨h1, h⟩ := Bool.and_eq_true_iff.mp h
  obtain ⟨h2, h⟩ := Bool.and_eq_true_iff.mp h
  obtain ⟨h3, h4⟩ := Bool.and_eq_true_iff.mp h
  refine ⟨?_, noB_ok h2, beq_iff_eq.mp h3, h4⟩
  split at h1
  · rename_i v e; rw [e, beq_iff_eq.mp h1]
  · cases h1
def fldXB (K : PySem.W.Frag) (cs : List Str) (f : Str) : Bool := cs.all fun c => xfB' K (He.ga K c) && noB K (He.ga K c) f
theorem fldXB_ok {K : PySem.W.Frag} {cs : List Str} {f : Str} (h : fldXB K cs f = true) : FldX K cs f := fun c hc => by
  have := List.all_eq_true.mp h _ hc
  obtain ⟨h1, h2⟩ := Bool.and_eq_true_iff.mp this
  exact ⟨xfB'_ok h1, noB_ok h2⟩
end BrH
end
section
namespace LW
open PySem PySem.Spec PyProof.Rows L2 Br
def xtab : XTab := [("NoShape", [("Fault", false), ("Idle", false), ("TooMany", false), ("Unlike", false), ("NoKind", false), ("NoArgument", false), ("NoPlace", false), ("NoEvent", false), ("NoAnswer", false), ("NoCommand", false), ("NoOrder", false), ("NoHistory", false), ("NoText", false), ("NoLayer", false), ("NoShape", true)], [("RuntimeError", false), ("OverflowError", false), ("LookupError", false), ("KeyError", false), ("IndexError", false), ("TypeError", false), ("ValueError", true)]), ("NoLayer", [("Fault", false), ("Idle", false), ("TooMany", false), ("Unlike", false), ("NoKind", false), ("NoArgument", false), ("NoPlace", false), ("NoEvent", false), ("NoAnswer", false), ("NoCommand", false), ("NoOrder", false), ("NoHistory", false), ("NoText", false), ("NoLayer", true), ("NoShape", false)], [("RuntimeError", false), ("OverflowError", false), ("LookupError", false), ("KeyError", false), ("IndexError", false), ("TypeError", false), ("ValueError", true)]), ("NoText", [("Fault", false), ("Idle", false), ("TooMany", false), ("Unlike", false), ("NoKind", false), ("NoArgument", false), ("NoPlace", false), ("NoEvent", false), ("NoAnswer", false), ("NoCommand", false), ("NoOrder", false), ("NoHistory", false), ("NoText", true), ("NoLayer", false), ("NoShape", false)], [("RuntimeError", false), ("OverflowError", false), ("LookupError", false), ("KeyError", false), ("IndexError", false), ("TypeError", false), ("ValueError", true)]), ("NoHistory", [("Fault", false), ("Idle", false), ("TooMany", false), ("Unlike", false), ("NoKind", false), ("NoArgument", false), ("NoPlace", false), ("NoEvent", false), ("NoAnswer", false), ("NoCommand", false), ("NoOrder", false), ("NoHistory", true), ("NoText", false), ("NoLayer", false), ("NoShape", false)], [("RuntimeError", false), ("OverflowError", false), ("LookupError", false), ("KeyError", false), ("IndexError", false), ("TypeError", false), ("ValueError", true)]), ("NoOrder", [("Fault", false), ("Idle", false), ("TooMany", false), ("Unlike", false), ("NoKind", false), ("NoArgument", false), ("NoPlace", false), ("NoEvent", false), ("NoAnswer", false), ("NoCommand", false), ("NoOrder", true), ("NoHistory", false), ("NoText", false), ("NoLayer", false), ("NoShape", false)], [("RuntimeError", false), ("OverflowError", false), ("LookupError", false), ("KeyError", false), ("IndexError", false), ("TypeError", false), ("ValueError", true)]), ("NoCommand", [("Fault", false), ("Idle", false), ("TooMany", false), ("Unlike", false), ("NoKind", false), ("NoArgument", false), ("NoPlace", false), ("NoEvent", false), ("NoAnswer", false), ("NoCommand", true), ("NoOrder", false), ("NoHistory", false), ("NoText", false), ("NoLayer", false), ("NoShape", false)], [("RuntimeError", false), ("OverflowError", false), ("LookupError", false), ("KeyError", false), ("IndexError", false), ("TypeError", false), ("ValueError", true)]), ("NoAnswer", [("Fault", false), ("Idle", false), ("TooMany", false), ("Unlike", false), ("NoKind", false), ("NoArgument", false), ("NoPlace", false), ("NoEvent", false), ("NoAnswer", true), ("NoCommand", false), ("NoOrder", false), ("NoHistory", false), ("NoText", false), ("NoLayer", false), ("NoShape", false)], [("RuntimeError", false), ("OverflowError", false), ("LookupError", false), ("KeyError", false), ("IndexError", false), ("TypeError", true), ("ValueError", false)]), ("NoEvent", [("Fault", false), ("Idle", false), ("TooMany", false), ("Unlike", false), ("NoKind", false), ("NoArgument", false), ("NoPlace", false), ("NoEvent", true), ("NoAnswer", false), ("NoCommand", false), ("NoOrder", false), ("NoHistory", false), ("NoText", false), ("NoLayer", false), ("NoShape", false)], [("RuntimeError", false), ("OverflowError", false), ("LookupError", false), ("KeyError", false), ("IndexError", false), ("TypeError", true), ("ValueError", false)]), ("NoPlace", [("Fault", false), ("Idle", false), ("TooMany", false), ("Unlike", false), ("NoKind", false), ("NoArgument", false), ("NoPlace", true), ("NoEvent", false), ("NoAnswer", false), ("NoCommand", false), ("NoOrder", false), ("NoHistory", false), ("NoText", false), ("NoLayer", false), ("NoShape", false)], [("RuntimeError", false), ("OverflowError", false), ("LookupError", true), ("KeyError", false), ("IndexError", true), ("TypeError", false), ("ValueError", false)]), ("NoArgument", [("Fault", false), ("Idle", false), ("TooMany", false), ("Unlike", false), ("NoKind", false), ("NoArgument", true), ("NoPlace", false), ("NoEvent", false), ("NoAnswer", false), ("NoCommand", false), ("NoOrder", false), ("NoHistory", false), ("NoText", false), ("NoLayer", false), ("NoShape", false)], [("RuntimeError", false), ("OverflowError", false), ("LookupError", true), ("KeyError", false), ("IndexError", true), ("TypeError", false), ("ValueError", false)]), ("NoKind", [("Fault", false), ("Idle", false), ("TooMany", false), ("Unlike", false), ("NoKind", true), ("NoArgument", false), ("NoPlace", false), ("NoEvent", false), ("NoAnswer", false), ("NoCommand", false), ("NoOrder", false), ("NoHistory", false), ("NoText", false), ("NoLayer", false), ("NoShape", false)], [("RuntimeError", false), ("OverflowError", false), ("LookupError", true), ("KeyError", true), ("IndexError", false), ("TypeError", false), ("ValueError", false)]), ("Unlike", [("Fault", false), ("Idle", false), ("TooMany", false), ("Unlike", true), ("NoKind", false), ("NoArgument", false), ("NoPlace", false), ("NoEvent", false), ("NoAnswer", false), ("NoCommand", false), ("NoOrder", false), ("NoHistory", false), ("NoText", false), ("NoLayer", false), ("NoShape", false)], [("RuntimeError", false), ("OverflowError", false), ("LookupError", true), ("KeyError", false), ("IndexError", false), ("TypeError", false), ("ValueError", false)]), ("TooMany", [("Fault", false), ("Idle", false), ("TooMany", true), ("Unlike", false), ("NoKind", false), ("NoArgument", false), ("NoPlace", false), ("NoEvent", false), ("NoAnswer", false), ("NoCommand", false), ("NoOrder", false), ("NoHistory", false), ("NoText", false), ("NoLayer", false), ("NoShape", false)], [("RuntimeError", false), ("OverflowError", true), ("LookupError", false), ("KeyError", false), ("IndexError", false), ("TypeError", false), ("ValueError", false)]), ("Idle", [("Fault", false), ("Idle", true), ("TooMany", false), ("Unlike", false), ("NoKind", false), ("NoArgument", false), ("NoPlace", false), ("NoEvent", false), ("NoAnswer", false), ("NoCommand", false), ("NoOrder", false), ("NoHistory", false), ("NoText", false), ("NoLayer", false), ("NoShape", false)], [("RuntimeError", true), ("OverflowError", false), ("LookupError", false), ("KeyError", false), ("IndexError", false), ("TypeError", false), ("ValueError", false)]), ("Fault", [("Fault", true), ("Idle", false), ("TooMany", false), ("Unlike", false), ("NoKind", false), ("NoArgument", false), ("NoPlace", false), ("NoEvent", false), ("NoAnswer", false), ("NoCommand", false), ("NoOrder", false), ("NoHistory", false), ("NoText", false), ("NoLayer", false), ("NoShape", false)], [("RuntimeError", true), ("OverflowError", false), ("LookupError", false), ("KeyError", false), ("IndexError", false), ("TypeError", false), ("ValueError", false)])]
/-- _law_kind -/
def b__law_kind : FStm := (sSeq (sAsg (eL gLst (aC (eC (D.str "NoShape")) (aC (eC (D.str "NoLayer")) (aC (eC (D.str "NoText")) (aC (eC (D.str "NoHistory")) (aC (eC (D.str "NoOrder")) (aC (eC (D.str "NoCommand")) (aC (eC (D.str "NoAnswer")) (aC (eC (D.str "NoEvent")) (aC (eC (D.str "NoPlace")) aN)))))))))) (gN 1))
    (sSeq (sAsg (e2 gCatV (eV 1) (eL gLst (aC (eC (D.str "NoArgument")) (aC (eC (D.str "NoKind")) (aC (eC (D.str "Unlike")) (aC (eC (D.str "TooMany")) (aC (eC (D.str "Idle")) (aC (eC (D.str "Fault")) aN)))))))) (gN 1))
    (sSeq (sAsg (eL gLst (aC (eL (gIsiX xtab) (aC (eV 0) (aC (eC (D.gl "NoShape")) aN))) (aC (eL (gIsiX xtab) (aC (eV 0) (aC (eC (D.gl "NoLayer")) aN))) (aC (eL (gIsiX xtab) (aC (eV 0) (aC (eC (D.gl "NoText")) aN))) (aC (eL (gIsiX xtab) (aC (eV 0) (aC (eC (D.gl "NoHistory")) aN))) aN))))) (gN 2))
    (sSeq (sAsg (e2 gCatV (eV 2) (eL gLst (aC (eL (gIsiX xtab) (aC (eV 0) (aC (eC (D.gl "NoOrder")) aN))) (aC (eL (gIsiX xtab) (aC (eV 0) (aC (eC (D.gl "NoCommand")) aN))) (aC (eL (gIsiX xtab) (aC (eV 0) (aC (eC (D.gl "NoAnswer")) aN))) (aC (eL (gIsiX xtab) (aC (eV 0) (aC (eC (D.gl "NoEvent")) aN))) aN)))))) (gN 2))
    (sSeq (sAsg (e2 gCatV (eV 2) (eL gLst (aC (eL (gIsiX xtab) (aC (eV 0) (aC (eC (D.gl "NoPlace")) aN))) (aC (eL (gIsiX xtab) (aC (eV 0) (aC (eC (D.gl "NoArgument")) aN))) (aC (eL (gIsiX xtab) (aC (eV 0) (aC (eC (D.gl "NoKind")) aN))) (aC (eL (gIsiX xtab) (aC (eV 0) (aC (eC (D.gl "Unlike")) aN))) aN)))))) (gN 2))
    (sSeq (sAsg (e2 gCatV (eV 2) (eL gLst (aC (eL (gIsiX xtab) (aC (eV 0) (aC (eC (D.gl "TooMany")) aN))) (aC (eL (gIsiX xtab) (aC (eV 0) (aC (eC (D.gl "Idle")) aN))) (aC (eL (gIsiX xtab) (aC (eV 0) (aC (eC (D.gl "Fault")) aN))) aN))))) (gN 2))
    (sSeq (sAsg (eL gLst (aC (eL (gIsiX xtab) (aC (eV 0) (aC (eC (D.ty "ValueError")) aN))) (aC (eL (gIsiX xtab) (aC (eV 0) (aC (eC (D.ty "TypeError")) aN))) (aC (eL (gIsiX xtab) (aC (eV 0) (aC (eC (D.ty "IndexError")) aN))) (aC (eL (gIsiX xtab) (aC (eV 0) (aC (eC (D.ty "KeyError")) aN))) aN))))) (gN 3))
    (sSeq (sAsg (e2 gCatV (eV 3) (eL gLst (aC (eL (gIsiX xtab) (aC (eV 0) (aC (eC (D.ty "LookupError")) aN))) (aC (eL (gIsiX xtab) (aC (eV 0) (aC (eC (D.ty "OverflowError")) aN))) (aC (eL (gIsiX xtab) (aC (eV 0) (aC (eC (D.ty "RuntimeError")) aN))) aN))))) (gN 3))
    (sSeq (sIf (tC (e2 gNe (eLm gLCnt (eV 2) (aC (eC (D.bl true)) aN)) (eC (D.int 1)))) (sRet (eC (D.str "other"))) sNx)
    (sSeq (sAsg (eLm gLIdx (eV 2) (aC (eC (D.bl true)) aN)) (gN 4))
    (sSeq (sAsg (e2 gCatV (eRepV (aC (eC (D.str "V")) aN) (eC (D.int 6))) (eL gLst (aC (eC (D.str "T")) (aC (eC (D.str "T")) (aC (eC (D.str "IL")) (aC (eC (D.str "IL")) (aC (eC (D.str "KL")) (aC (eC (D.str "L")) (aC (eC (D.str "O")) (aC (eC (D.str "R")) (aC (eC (D.str "R")) aN))))))))))) (gN 5))
    (sRet (eIf (tC (e2 gEq (eV 3) (eLcV [6] (wIs (eC (D.str "VTIKLOR"))) (gN 6) tYesM (e2 (gIn false) (eV 6) (e2 gIx (eV 5) (eV 4)))))) (e2 gIx (eV 1) (eV 4)) (eC (D.str "other")))))))))))))))
def m__law_kind : FL := run b__law_kind 7
/-- _law_field -/
def b__law_field : FStm := (sSeq (sIf (tC (e2 gEq (eV 1) (eC (D.str "NoShape")))) (sRet (eFldX [("NoShape" : Str)] "number" (eV 0))) sNx)
    (sSeq (sIf (tC (e2 gEq (eV 1) (eC (D.str "NoLayer")))) (sRet (eFldX [("NoLayer" : Str)] "layer" (eV 0))) sNx)
    (sSeq (sIf (tC (e2 (gIn false) (eV 1) (eL gTup (aC (eC (D.str "NoText")) (aC (eC (D.str "NoPlace")) aN))))) (sRet (eFldX [("NoText" : Str), ("NoPlace" : Str)] "place" (eV 0))) sNx)
    (sSeq (sIf (tC (e2 gEq (eV 1) (eC (D.str "NoHistory")))) (sRet (eFldX [("NoHistory" : Str)] "at" (eV 0))) sNx)
    (sSeq (sIf (tC (e2 gEq (eV 1) (eC (D.str "NoOrder")))) (sRet (eFldX [("NoOrder" : Str)] "order" (eV 0))) sNx)
    (sSeq (sIf (tC (e2 gEq (eV 1) (eC (D.str "NoAnswer")))) (sRet (eFldX [("NoAnswer" : Str)] "value" (eV 0))) sNx)
    (sSeq (sIf (tC (e2 gEq (eV 1) (eC (D.str "NoEvent")))) (sRet (eFldX [("NoEvent" : Str)] "event" (eV 0))) sNx)
    (sSeq (sIf (tC (e2 gEq (eV 1) (eC (D.str "NoArgument")))) (sRet (eFldX [("NoArgument" : Str)] "argument" (eV 0))) sNx)
    (sRet (eIf (tC (e2 gEq (eV 1) (eC (D.str "TooMany")))) (eFldX [("TooMany" : Str)] "limit" (eV 0)) (eFldX [("NoKind" : Str), ("Fault" : Str)] "kind" (eV 0))))))))))))
def m__law_field : FL := run b__law_field 2
/-- _law_take -/
def b__law_take : FStm := (sSeq (sIf (tC (e2 gGt (e2 gIx (eV 0) (eC (D.int 0))) (eC (D.int 0)))) (sSeq (sAsg (e2 gMod (e2 gIx (eV 0) (eC (D.int 0))) (eV 1)) (gN 3))
    (sSeq (sAsgT (e2 gFdiv (e2 gIx (eV 0) (eC (D.int 0))) (eV 1)) (gSb (eV 0) (eC (D.int 0))))
    (sRet (eV 3)))) sNx)
    (sSeq (sAsgT (e2 gAdd (e2 gIx (eV 0) (eC (D.int 2))) (eC (D.int 1))) (gSb (eV 0) (eC (D.int 2))))
    (sSeq (sAsg (e2 gMod (e2 gPow (e2 gAdd (e2 gIx (eV 0) (eC (D.int 1))) (e2 gMul' (eC (D.int 1000033)) (e2 gIx (eV 0) (eC (D.int 2))))) (eC (D.int 3))) (eC (D.int 2305843009213693921))) (gN 2))
    (sSeq (sAsg (e2 gMod (e2 gPow (e2 gAdd (eV 2) (e2 gMul' (eC (D.int 15485917)) (e2 gIx (eV 0) (eC (D.int 2))))) (eC (D.int 2))) (eC (D.int 2305843009213693951))) (gN 2))
    (sRet (e2 gMod (e2 gFdiv (eV 2) (eC (D.int 2048))) (eV 1)))))))
def m__law_take : FL := run b__law_take 4
/-- _law_any -/
def b__law_any : FStm := (sSeq (sAsg (eL gLst (aC (eC D.non) (aC (eC (D.bl true)) (aC (eC (D.bl false)) (aC (eC (D.int 0)) (aC (eC (D.int 1)) (aC (eC (D.int 2)) (aC (eC (D.int 3)) (aC (e1 gNeg (eC (D.int 1))) (aC (eC (D.int 9)) (aC (eC (D.int 10)) (aC (e2 gPow (eC (D.int 10)) (eC (D.int 40))) (aC (eC (D.str "")) (aC (eC (D.str "cache")) (aC (eC (D.str "stale")) (aC (eC (D.str "retry")) (aC (eC (D.str "Cache")) (aC (eC (D.str "lead")) (aC (eL gLst aN) (aC (eL gTup aN) aN)))))))))))))))))))) (gN 1))
    (sSeq (sAsg (e2 gCatN (eV 1) (eL gLst (aC (eL gTup (aC (eC (D.int 0)) aN)) (aC (eL gTup (aC (eC (D.int 1)) aN)) (aC (eL gTup (aC (eC (D.int 0)) (aC (eC (D.int 1)) aN))) (aC (eL gTup (aC (eC (D.int 1)) (aC (eC (D.int 0)) aN))) (aC (eL gTup (aC (eC (D.int 0)) (aC (eC (D.int 0)) aN))) (aC (eL gLst (aC (eC (D.int 0)) aN)) (aC (eL gTup (aC (eC (D.bl true)) aN)) (aC (eL gTup (aC (eC (D.str "cache")) aN)) (aC (eL gLst (aC (eC (D.str "cache")) aN)) (aC (eL gTup (aC (eC (D.str "once")) aN)) aN)))))))))))) (gN 1))
    (sSeq (sDrop (eAppend (eV 1) (aC (eL gTup (aC (eC (D.str "retry")) (aC (eC (D.int 1)) (aC (eL gTup (aC (eC (D.int 0)) aN)) aN)))) aN)))
    (sRet (e2 gIx (eV 1) (eL (gCall 2 (fun ds _ => ds) m__law_take) (aC (eV 0) (aC (eC (D.int 30)) aN))))))))
def m__law_any : FL := run b__law_any 2
/-- _law_bag -/
def b__law_bag : FStm := (sSeq (sAsg (eIf (tC (e2 gLt (eV 1) (eL gLen (aC (eV 0) aN)))) (e2 gIx (eV 0) (eV 1)) (eC (D.int 0))) (gN 2))
    (sSeq (sAsg (eIf (tC (e2 gGe (eL gAbs (aC (eV 2) aN)) (e2 gPow (eC (D.int 10)) (eC (D.int 18))))) (eL gAbs (aC (eV 2) aN)) (eC (D.int 0))) (gN 3))
    (sRet (eL gNew (aC (eV 3) (aC (e2 gMod (e2 gMul' (e2 gAdd (e2 gAdd (e2 gMod (eV 2) (eC (D.int 2305843009213693951))) (e2 gMul' (eC (D.int 8221)) (eV 1))) (eC (D.int 7))) (eC (D.int 5103497))) (eC (D.int 2305843009213693951))) (aC (eC (D.int 0)) aN)))))))
def m__law_bag : FL := run b__law_bag 4
/-- law -/
def l0_law : FStm := (sSeq (sIf (tOr (tC (e2 gNe (eL (gCall 1 (fun ds _ => ds) m__law_kind) (aC (eV 7) aN)) (eV 6))) (tC (e2 gNe (eL (gCall 1 (fun ds _ => ds) m__law_kind) (aC (eV 8) aN)) (eV 6)))) (sRet (eC (D.bl false))) sNx)
    (sIf (tOr (tC (e2 gNe (eL gRepr (aC (eL (gCall 2 (fun ds _ => ds) m__law_field) (aC (eV 7) (aC (eV 6) aN))) aN)) (eL gRepr (aC (eV 3) aN)))) (tC (e2 gNe (eL gRepr (aC (eL (gCall 2 (fun ds _ => ds) m__law_field) (aC (eV 8) (aC (eV 6) aN))) aN)) (eL gRepr (aC (eV 4) aN))))) (sRet (eC (D.bl false))) sNx))
def l1_law : FStm := (sSeq (sAsg (eL (gCall 2 (fun ds _ => ds) m__law_bag) (aC (eV 0) (aC (eV 1) aN))) (gN 2))
    (sSeq (sPar [3, 4] (aC (eL (gCall 1 (fun ds _ => ds) m__law_any) (aC (eV 2) aN)) (aC (eL (gCall 1 (fun ds _ => ds) m__law_any) (aC (eV 2) aN)) aN)))
    (sSeq (sAsg (eL gNew (aC (eL gTup (aC (eC (D.str "NoShape")) (aC (eL (gMkG "NoShape" "number") (aC (eV 3) aN)) (aC (eL (gMkG "NoShape" "number") (aC (eV 4) aN)) aN)))) aN)) (gN 5))
    (sSeq (sDrop (eAppend (eV 5) (aC (eL gTup (aC (eC (D.str "NoLayer")) (aC (eL (gMkG "NoLayer" "layer") (aC (eV 3) aN)) (aC (eL (gMkG "NoLayer" "layer") (aC (eV 4) aN)) aN)))) aN)))
    (sSeq (sDrop (eAppend (eV 5) (aC (eL gTup (aC (eC (D.str "NoText")) (aC (eL (gMkG "NoText" "place") (aC (eV 3) aN)) (aC (eL (gMkG "NoText" "place") (aC (eV 4) aN)) aN)))) aN)))
    (sSeq (sDrop (eAppend (eV 5) (aC (eL gTup (aC (eC (D.str "NoHistory")) (aC (eL (gMkG "NoHistory" "at") (aC (eV 3) aN)) (aC (eL (gMkG "NoHistory" "at") (aC (eV 4) aN)) aN)))) aN)))
    (sSeq (sDrop (eAppend (eV 5) (aC (eL gTup (aC (eC (D.str "NoOrder")) (aC (eL (gMkG "NoOrder" "order") (aC (eV 3) aN)) (aC (eL (gMkG "NoOrder" "order") (aC (eV 4) aN)) aN)))) aN)))
    (sSeq (sDrop (eAppend (eV 5) (aC (eL gTup (aC (eC (D.str "NoAnswer")) (aC (eL (gMkG "NoAnswer" "value") (aC (eV 3) aN)) (aC (eL (gMkG "NoAnswer" "value") (aC (eV 4) aN)) aN)))) aN)))
    (sSeq (sDrop (eAppend (eV 5) (aC (eL gTup (aC (eC (D.str "NoEvent")) (aC (eL (gMkG "NoEvent" "event") (aC (eV 3) aN)) (aC (eL (gMkG "NoEvent" "event") (aC (eV 4) aN)) aN)))) aN)))
    (sSeq (sDrop (eAppend (eV 5) (aC (eL gTup (aC (eC (D.str "NoPlace")) (aC (eL (gMkG "NoPlace" "place") (aC (eV 3) aN)) (aC (eL (gMkG "NoPlace" "place") (aC (eV 4) aN)) aN)))) aN)))
    (sSeq (sDrop (eAppend (eV 5) (aC (eL gTup (aC (eC (D.str "NoArgument")) (aC (eL (gMkG "NoArgument" "argument") (aC (eV 3) aN)) (aC (eL (gMkG "NoArgument" "argument") (aC (eV 4) aN)) aN)))) aN)))
    (sSeq (sDrop (eAppend (eV 5) (aC (eL gTup (aC (eC (D.str "NoKind")) (aC (eL (gMkG "NoKind" "kind") (aC (eV 3) aN)) (aC (eL (gMkG "NoKind" "kind") (aC (eV 4) aN)) aN)))) aN)))
    (sSeq (sDrop (eAppend (eV 5) (aC (eL gTup (aC (eC (D.str "TooMany")) (aC (eL (gMkG "TooMany" "limit") (aC (eV 3) aN)) (aC (eL (gMkG "TooMany" "limit") (aC (eV 4) aN)) aN)))) aN)))
    (sSeq (sDrop (eAppend (eV 5) (aC (eL gTup (aC (eC (D.str "Fault")) (aC (eL (gMkG "Fault" "kind") (aC (eV 3) aN)) (aC (eL (gMkG "Fault" "kind") (aC (eV 4) aN)) aN)))) aN)))
    (sSeq (sForE 100 (wIt (eV 5)) (gTp 3 (gsC (gN 6) (gsC (gN 7) (gsC (gN 8) gsN)))) l0_law)
    (sSeq (sAsg (eL gLst (aC (eL gTup (aC (eC (D.str "NoCommand")) (aC (eL (gMk0 "NoCommand") aN) aN))) (aC (eL gTup (aC (eC (D.str "Unlike")) (aC (eL (gMk0 "Unlike") aN) aN))) (aC (eL gTup (aC (eC (D.str "Idle")) (aC (eL (gMk0 "Idle") aN) aN))) aN)))) (gN 9))
    (sIf (tC (e2 gNe (eLcV [6, 10] (wIt (eV 9)) (gTp 2 (gsC (gN 6) (gsC (gN 10) gsN))) tYesM (eL (gCall 1 (fun ds _ => ds) m__law_kind) (aC (eV 10) aN))) (eLcV [6, 10] (wIt (eV 9)) (gTp 2 (gsC (gN 6) (gsC (gN 10) gsN))) tYesM (eV 6)))) (sRet (eC (D.bl false))) sNx)))))))))))))))))
def b_law : FStm := (sSeq (sForE 100 (wRng1 (aC (eL gMax (aC (eC (D.int 2)) (aC (eL gMin (aC (eC (D.int 6)) (aC (eL gLen (aC (eV 0) aN)) aN))) aN))) aN)) (gN 1) l1_law)
    (sRet (eC (D.bl true))))
def m_law : FL := run b_law 11
end LW
end
section
namespace LW
open PySem PySem.Spec PyProof.Rows L2 Br
def top (i : Nat) : Stmt := PySem.Challenge.pw_callayers_k24_errors_made.main.body.getD i (.Pass ⟨0, 0, 0, 0⟩)
abbrev s__law_kind : Stmt := top 20
abbrev s__law_field : Stmt := top 21
abbrev s_Fault_init : Stmt := inClass (top 15) 0
abbrev s_TooMany_init : Stmt := inClass (top 13) 0
abbrev s_NoKind_init : Stmt := inClass (top 11) 0
abbrev s_NoArgument_init : Stmt := inClass (top 10) 0
abbrev s_NoPlace_init : Stmt := inClass (top 9) 0
abbrev s_NoEvent_init : Stmt := inClass (top 8) 0
abbrev s_NoAnswer_init : Stmt := inClass (top 7) 0
abbrev s_NoOrder_init : Stmt := inClass (top 5) 0
abbrev s_NoHistory_init : Stmt := inClass (top 4) 0
abbrev s_NoText_init : Stmt := inClass (top 3) 0
abbrev s_NoLayer_init : Stmt := inClass (top 2) 0
abbrev s_NoShape_init : Stmt := inClass (top 1) 0
abbrev s__law_take : Stmt := top 18
abbrev s__law_any : Stmt := top 19
abbrev s__law_bag : Stmt := top 17
abbrev s_law : Stmt := top 22
structure Tx (w : World) (K : PySem.W.Frag) (mg : Str → Option Value) : Prop where
  nokl : NoKL K
  f_len : mg "len" = none
  f_min : mg "min" = none
  f_max : mg "max" = none
  f_range : mg "range" = none
  xtab : XTabOk K xtab
  f_RuntimeError : mg "RuntimeError" = none
  f_isinstance : mg "isinstance" = none
  f_OverflowError : mg "OverflowError" = none
  f_LookupError : mg "LookupError" = none
  f_KeyError : mg "KeyError" = none
  f_IndexError : mg "IndexError" = none
  f_TypeError : mg "TypeError" = none
  f_ValueError : mg "ValueError" = none
  g_Fault : mg "Fault" = some (.ref (He.ga K "Fault"))
  g_Idle : mg "Idle" = some (.ref (He.ga K "Idle"))
  g_TooMany : mg "TooMany" = some (.ref (He.ga K "TooMany"))
  g_Unlike : mg "Unlike" = some (.ref (He.ga K "Unlike"))
  g_NoKind : mg "NoKind" = some (.ref (He.ga K "NoKind"))
  g_NoArgument : mg "NoArgument" = some (.ref (He.ga K "NoArgument"))
  g_NoPlace : mg "NoPlace" = some (.ref (He.ga K "NoPlace"))
  g_NoEvent : mg "NoEvent" = some (.ref (He.ga K "NoEvent"))
  g_NoAnswer : mg "NoAnswer" = some (.ref (He.ga K "NoAnswer"))
  g_NoCommand : mg "NoCommand" = some (.ref (He.ga K "NoCommand"))
  g_NoOrder : mg "NoOrder" = some (.ref (He.ga K "NoOrder"))
  g_NoHistory : mg "NoHistory" = some (.ref (He.ga K "NoHistory"))
  g_NoText : mg "NoText" = some (.ref (He.ga K "NoText"))
  g_NoLayer : mg "NoLayer" = some (.ref (He.ga K "NoLayer"))
  g_NoShape : mg "NoShape" = some (.ref (He.ga K "NoShape"))
  g__law_kind : mg "_law_kind" = some (.ref (He.ga K "_law_kind"))
  k__law_kind : PySem.W.keepIn K (.ref (He.ga K "_law_kind")) = true
  x0_Idle : ExcM0 K (He.ga K "Idle")
  x0_Unlike : ExcM0 K (He.ga K "Unlike")
  x0_NoCommand : ExcM0 K (He.ga K "NoCommand")
  fx_limit : FldX K [("TooMany" : Str)] "limit"
  fx_kind : FldX K [("NoKind" : Str), ("Fault" : Str)] "kind"
  fx_argument : FldX K [("NoArgument" : Str)] "argument"
  fx_event : FldX K [("NoEvent" : Str)] "event"
  fx_value : FldX K [("NoAnswer" : Str)] "value"
  fx_order : FldX K [("NoOrder" : Str)] "order"
  fx_at : FldX K [("NoHistory" : Str)] "at"
  fx_place : FldX K [("NoText" : Str), ("NoPlace" : Str)] "place"
  fx_layer : FldX K [("NoLayer" : Str)] "layer"
  fx_number : FldX K [("NoShape" : Str)] "number"
  g__law_field : mg "_law_field" = some (.ref (He.ga K "_law_field"))
  k__law_field : PySem.W.keepIn K (.ref (He.ga K "_law_field")) = true
  f_repr : mg "repr" = none
  me_Fault___init__ : Meth K (He.ga K "Fault") "__init__" (He.ma K (He.ga K "Fault") "__init__")
  xg_Fault : BrH.ExcG K (He.ga K "Fault") "kind"
  me_TooMany___init__ : Meth K (He.ga K "TooMany") "__init__" (He.ma K (He.ga K "TooMany") "__init__")
  xg_TooMany : BrH.ExcG K (He.ga K "TooMany") "limit"
  me_NoKind___init__ : Meth K (He.ga K "NoKind") "__init__" (He.ma K (He.ga K "NoKind") "__init__")
  xg_NoKind : BrH.ExcG K (He.ga K "NoKind") "kind"
  me_NoArgument___init__ : Meth K (He.ga K "NoArgument") "__init__" (He.ma K (He.ga K "NoArgument") "__init__")
  xg_NoArgument : BrH.ExcG K (He.ga K "NoArgument") "argument"
  me_NoPlace___init__ : Meth K (He.ga K "NoPlace") "__init__" (He.ma K (He.ga K "NoPlace") "__init__")
  xg_NoPlace : BrH.ExcG K (He.ga K "NoPlace") "place"
  me_NoEvent___init__ : Meth K (He.ga K "NoEvent") "__init__" (He.ma K (He.ga K "NoEvent") "__init__")
  xg_NoEvent : BrH.ExcG K (He.ga K "NoEvent") "event"
  me_NoAnswer___init__ : Meth K (He.ga K "NoAnswer") "__init__" (He.ma K (He.ga K "NoAnswer") "__init__")
  xg_NoAnswer : BrH.ExcG K (He.ga K "NoAnswer") "value"
  me_NoOrder___init__ : Meth K (He.ga K "NoOrder") "__init__" (He.ma K (He.ga K "NoOrder") "__init__")
  xg_NoOrder : BrH.ExcG K (He.ga K "NoOrder") "order"
  me_NoHistory___init__ : Meth K (He.ga K "NoHistory") "__init__" (He.ma K (He.ga K "NoHistory") "__init__")
  xg_NoHistory : BrH.ExcG K (He.ga K "NoHistory") "at"
  me_NoText___init__ : Meth K (He.ga K "NoText") "__init__" (He.ma K (He.ga K "NoText") "__init__")
  xg_NoText : BrH.ExcG K (He.ga K "NoText") "place"
  me_NoLayer___init__ : Meth K (He.ga K "NoLayer") "__init__" (He.ma K (He.ga K "NoLayer") "__init__")
  xg_NoLayer : BrH.ExcG K (He.ga K "NoLayer") "layer"
  me_NoShape___init__ : Meth K (He.ga K "NoShape") "__init__" (He.ma K (He.ga K "NoShape") "__init__")
  xg_NoShape : BrH.ExcG K (He.ga K "NoShape") "number"
  g__law_take : mg "_law_take" = some (.ref (He.ga K "_law_take"))
  k__law_take : PySem.W.keepIn K (.ref (He.ga K "_law_take")) = true
  g__law_any : mg "_law_any" = some (.ref (He.ga K "_law_any"))
  k__law_any : PySem.W.keepIn K (.ref (He.ga K "_law_any")) = true
  f_abs : mg "abs" = none
  g__law_bag : mg "_law_bag" = some (.ref (He.ga K "_law_bag"))
  k__law_bag : PySem.W.keepIn K (.ref (He.ga K "_law_bag")) = true
section
variable {P : Program} {w : World} {K : PySem.W.Frag} {mg : Str → Option Value} {base : Heap}
theorem ab_law_1 {fd : FuncData} (F : FunD K "law" "law" (defArgs s_law) (defBody s_law) (defScope s_law) [] [] (He.ga K "law") fd) : AB P w K mg base fd [("_law_script" : Str)] 1 [] (fun ds _ => ds) := by
  exact AB.of_all (FunD.bindsN F fun _ _ _ _ _ _ us hl => match us, hl with | [_], _ => rfl) rfl
theorem ab__law_kind_1 {fd : FuncData} (F : FunD K "_law_kind" "_law_kind" (defArgs s__law_kind) (defBody s__law_kind) (defScope s__law_kind) [] [] (He.ga K "_law_kind") fd) : AB P w K mg base fd [("_law_e" : Str)] 1 [] (fun ds _ => ds) := by
  exact AB.of_all (FunD.bindsN F fun _ _ _ _ _ _ us hl => match us, hl with | [_], _ => rfl) rfl
theorem ab__law_field_2 {fd : FuncData} (F : FunD K "_law_field" "_law_field" (defArgs s__law_field) (defBody s__law_field) (defScope s__law_field) [] [] (He.ga K "_law_field") fd) : AB P w K mg base fd [("_law_e" : Str), ("_law_word" : Str)] 2 [] (fun ds _ => ds) := by
  exact AB.of_all (FunD.bindsN F fun _ _ _ _ _ _ us hl => match us, hl with | [_, _], _ => rfl) rfl
theorem ab__law_take_2 {fd : FuncData} (F : FunD K "_law_take" "_law_take" (defArgs s__law_take) (defBody s__law_take) (defScope s__law_take) [] [] (He.ga K "_law_take") fd) : AB P w K mg base fd [("_law_bag_here" : Str), ("_law_many" : Str)] 2 [] (fun ds _ => ds) := by
  exact AB.of_all (FunD.bindsN F fun _ _ _ _ _ _ us hl => match us, hl with | [_, _], _ => rfl) rfl
theorem ab__law_any_1 {fd : FuncData} (F : FunD K "_law_any" "_law_any" (defArgs s__law_any) (defBody s__law_any) (defScope s__law_any) [] [] (He.ga K "_law_any") fd) : AB P w K mg base fd [("_law_bag_here" : Str)] 1 [] (fun ds _ => ds) := by
  exact AB.of_all (FunD.bindsN F fun _ _ _ _ _ _ us hl => match us, hl with | [_], _ => rfl) rfl
theorem ab__law_bag_2 {fd : FuncData} (F : FunD K "_law_bag" "_law_bag" (defArgs s__law_bag) (defBody s__law_bag) (defScope s__law_bag) [] [] (He.ga K "_law_bag") fd) : AB P w K mg base fd [("_law_script" : Str), ("_law_spot" : Str)] 2 [] (fun ds _ => ds) := by
  exact AB.of_all (FunD.bindsN F fun _ _ _ _ _ _ us hl => match us, hl with | [_, _], _ => rfl) rfl
theorem sc__law_kind : FnScope [("_law_e" : Str), ("_law_words" : Str), ("_law_sorts" : Str), ("_law_above" : Str), ("_law_spot" : Str), ("_law_due" : Str), ("_law_sign" : Str)] [("_law_e" : Str)] (defScope s__law_kind) := ⟨rfl, rfl, rfl, by decide +kernel, rfl, by decide +kernel, by decide +kernel⟩
theorem ok__law_kind {fd : FuncData} (T : Tx w K mg) (F : FunD K "_law_kind" "_law_kind" (defArgs s__law_kind) (defBody s__law_kind) (defScope s__law_kind) [] [] (He.ga K "_law_kind") fd) : FnM P w K mg base 1 (He.ga K "_law_kind") fd [("_law_e" : Str)] m__law_kind := by
  refine fnM_of F sc__law_kind fun cdv A outer s H E hr hg => ?_
  have hgd : (A.deeper (envOfC "_law_kind" (defScope s__law_kind) s.heap.objs.size (He.ga K "_law_kind") cdv)).guards = some [] := hg
  have tk := L2N.takes_of (X := cxOf (L2N.CX P w) P w K mg base [("_law_e" : Str), ("_law_words" : Str), ("_law_sorts" : Str), ("_law_above" : Str), ("_law_spot" : Str), ("_law_due" : Str), ("_law_sign" : Str)] "_law_kind" (defScope s__law_kind) (He.ga K "_law_kind") cdv A outer s H E) rfl rfl rfl rfl
  exact (mss_cons (ms_set 1 sc__law_kind.nd rfl (by first | exact Or.inl rfl | exact Or.inr rfl) (me_lst (ma_cons me_str (ma_cons me_str (ma_cons me_str (ma_cons me_str (ma_cons me_str (ma_cons me_str (ma_cons me_str (ma_cons me_str (ma_cons me_str ma_nil)))))))))))
    (mss_cons (ms_set 1 sc__law_kind.nd rfl (by first | exact Or.inl rfl | exact Or.inr rfl) (me_catV T.nokl (me_v 1) (me_lst (ma_cons me_str (ma_cons me_str (ma_cons me_str (ma_cons me_str (ma_cons me_str (ma_cons me_str ma_nil)))))))))
    (mss_cons (ms_set 2 sc__law_kind.nd rfl (by first | exact Or.inl rfl | exact Or.inr rfl) (me_lst (ma_cons (me_cb (cm_isiX T.xtab) (by rfl) T.f_isinstance (by decide +kernel) (ma_cons (me_v 0) (ma_cons (me_gl rfl T.g_NoShape) ma_nil))) (ma_cons (me_cb (cm_isiX T.xtab) (by rfl) T.f_isinstance (by decide +kernel) (ma_cons (me_v 0) (ma_cons (me_gl rfl T.g_NoLayer) ma_nil))) (ma_cons (me_cb (cm_isiX T.xtab) (by rfl) T.f_isinstance (by decide +kernel) (ma_cons (me_v 0) (ma_cons (me_gl rfl T.g_NoText) ma_nil))) (ma_cons (me_cb (cm_isiX T.xtab) (by rfl) T.f_isinstance (by decide +kernel) (ma_cons (me_v 0) (ma_cons (me_gl rfl T.g_NoHistory) ma_nil))) ma_nil))))))
    (mss_cons (ms_set 2 sc__law_kind.nd rfl (by first | exact Or.inl rfl | exact Or.inr rfl) (me_catV T.nokl (me_v 2) (me_lst (ma_cons (me_cb (cm_isiX T.xtab) (by rfl) T.f_isinstance (by decide +kernel) (ma_cons (me_v 0) (ma_cons (me_gl rfl T.g_NoOrder) ma_nil))) (ma_cons (me_cb (cm_isiX T.xtab) (by rfl) T.f_isinstance (by decide +kernel) (ma_cons (me_v 0) (ma_cons (me_gl rfl T.g_NoCommand) ma_nil))) (ma_cons (me_cb (cm_isiX T.xtab) (by rfl) T.f_isinstance (by decide +kernel) (ma_cons (me_v 0) (ma_cons (me_gl rfl T.g_NoAnswer) ma_nil))) (ma_cons (me_cb (cm_isiX T.xtab) (by rfl) T.f_isinstance (by decide +kernel) (ma_cons (me_v 0) (ma_cons (me_gl rfl T.g_NoEvent) ma_nil))) ma_nil)))))))
    (mss_cons (ms_set 2 sc__law_kind.nd rfl (by first | exact Or.inl rfl | exact Or.inr rfl) (me_catV T.nokl (me_v 2) (me_lst (ma_cons (me_cb (cm_isiX T.xtab) (by rfl) T.f_isinstance (by decide +kernel) (ma_cons (me_v 0) (ma_cons (me_gl rfl T.g_NoPlace) ma_nil))) (ma_cons (me_cb (cm_isiX T.xtab) (by rfl) T.f_isinstance (by decide +kernel) (ma_cons (me_v 0) (ma_cons (me_gl rfl T.g_NoArgument) ma_nil))) (ma_cons (me_cb (cm_isiX T.xtab) (by rfl) T.f_isinstance (by decide +kernel) (ma_cons (me_v 0) (ma_cons (me_gl rfl T.g_NoKind) ma_nil))) (ma_cons (me_cb (cm_isiX T.xtab) (by rfl) T.f_isinstance (by decide +kernel) (ma_cons (me_v 0) (ma_cons (me_gl rfl T.g_Unlike) ma_nil))) ma_nil)))))))
    (mss_cons (ms_set 2 sc__law_kind.nd rfl (by first | exact Or.inl rfl | exact Or.inr rfl) (me_catV T.nokl (me_v 2) (me_lst (ma_cons (me_cb (cm_isiX T.xtab) (by rfl) T.f_isinstance (by decide +kernel) (ma_cons (me_v 0) (ma_cons (me_gl rfl T.g_TooMany) ma_nil))) (ma_cons (me_cb (cm_isiX T.xtab) (by rfl) T.f_isinstance (by decide +kernel) (ma_cons (me_v 0) (ma_cons (me_gl rfl T.g_Idle) ma_nil))) (ma_cons (me_cb (cm_isiX T.xtab) (by rfl) T.f_isinstance (by decide +kernel) (ma_cons (me_v 0) (ma_cons (me_gl rfl T.g_Fault) ma_nil))) ma_nil))))))
    (mss_cons (ms_set 3 sc__law_kind.nd rfl (by first | exact Or.inl rfl | exact Or.inr rfl) (me_lst (ma_cons (me_cb (cm_isiX T.xtab) (by rfl) T.f_isinstance (by decide +kernel) (ma_cons (me_v 0) (ma_cons (me_ty rfl T.f_ValueError (by decide +kernel)) ma_nil))) (ma_cons (me_cb (cm_isiX T.xtab) (by rfl) T.f_isinstance (by decide +kernel) (ma_cons (me_v 0) (ma_cons (me_ty rfl T.f_TypeError (by decide +kernel)) ma_nil))) (ma_cons (me_cb (cm_isiX T.xtab) (by rfl) T.f_isinstance (by decide +kernel) (ma_cons (me_v 0) (ma_cons (me_ty rfl T.f_IndexError (by decide +kernel)) ma_nil))) (ma_cons (me_cb (cm_isiX T.xtab) (by rfl) T.f_isinstance (by decide +kernel) (ma_cons (me_v 0) (ma_cons (me_ty rfl T.f_KeyError (by decide +kernel)) ma_nil))) ma_nil))))))
    (mss_cons (ms_set 3 sc__law_kind.nd rfl (by first | exact Or.inl rfl | exact Or.inr rfl) (me_catV T.nokl (me_v 3) (me_lst (ma_cons (me_cb (cm_isiX T.xtab) (by rfl) T.f_isinstance (by decide +kernel) (ma_cons (me_v 0) (ma_cons (me_ty rfl T.f_LookupError (by decide +kernel)) ma_nil))) (ma_cons (me_cb (cm_isiX T.xtab) (by rfl) T.f_isinstance (by decide +kernel) (ma_cons (me_v 0) (ma_cons (me_ty rfl T.f_OverflowError (by decide +kernel)) ma_nil))) (ma_cons (me_cb (cm_isiX T.xtab) (by rfl) T.f_isinstance (by decide +kernel) (ma_cons (me_v 0) (ma_cons (me_ty rfl T.f_RuntimeError (by decide +kernel)) ma_nil))) ma_nil))))))
    (mss_cons (ms_if (mt_cmp (om_ne (hu64 hr)) (me_lcnt (me_v 2) (ma_cons me_bl ma_nil)) me_int (nomark _)) (mss_one (ms_ret me_str)) mss_nil)
    (mss_cons (ms_set 4 sc__law_kind.nd rfl (by first | exact Or.inl rfl | exact Or.inr rfl) (me_lidx (me_v 2) (ma_cons me_bl ma_nil)))
    (mss_cons (ms_set 5 sc__law_kind.nd rfl (by first | exact Or.inl rfl | exact Or.inr rfl) (me_catV T.nokl (me_repV (ma_cons me_str ma_nil) me_int) (me_lst (ma_cons me_str (ma_cons me_str (ma_cons me_str (ma_cons me_str (ma_cons me_str (ma_cons me_str (ma_cons me_str (ma_cons me_str (ma_cons me_str ma_nil))))))))))))
    (mss_one (ms_ret (me_if (mt_cmp (om_eq (hu64 hr)) (me_v 3) (me_lcV (own := [(("_law_sign" : Str), 6)]) (g := gName 6) rfl sc__law_kind.nd (blkOk_by (N := [("_law_e" : Str), ("_law_words" : Str), ("_law_sorts" : Str), ("_law_above" : Str), ("_law_spot" : Str), ("_law_due" : Str), ("_law_sign" : Str)]) (sc := defScope s__law_kind) (by decide +kernel)) (own_n (by decide)) (mi_str me_str) (fun _ _ _ _ _ => pg_name (i := 6) sc__law_kind.nd rfl (Or.inl rfl)) (fun _ _ _ _ _ => mts_nil) (fun _ _ _ _ _ => (me_cmp (om_in (hu65 hr)) (me_v 6) (me_ix ixm (me_v 5) (me_v 4) (fun _ _ => rfl)) (by with_unfolding_all rfl)))) (nomark _)) (me_ix ixm (me_v 1) (me_v 4) (fun _ _ => rfl)) me_str))))))))))))))
theorem sc__law_field : FnScope [("_law_e" : Str), ("_law_word" : Str)] [("_law_e" : Str), ("_law_word" : Str)] (defScope s__law_field) := ⟨rfl, rfl, rfl, by decide +kernel, rfl, by decide +kernel, by decide +kernel⟩
theorem ok__law_field {fd : FuncData} (T : Tx w K mg) (F : FunD K "_law_field" "_law_field" (defArgs s__law_field) (defBody s__law_field) (defScope s__law_field) [] [] (He.ga K "_law_field") fd) : FnM P w K mg base 1 (He.ga K "_law_field") fd [("_law_e" : Str), ("_law_word" : Str)] m__law_field := by
  refine fnM_of F sc__law_field fun cdv A outer s H E hr hg => ?_
  have hgd : (A.deeper (envOfC "_law_field" (defScope s__law_field) s.heap.objs.size (He.ga K "_law_field") cdv)).guards = some [] := hg
  have tk := L2N.takes_of (X := cxOf (L2N.CX P w) P w K mg base [("_law_e" : Str), ("_law_word" : Str)] "_law_field" (defScope s__law_field) (He.ga K "_law_field") cdv A outer s H E) rfl rfl rfl rfl
  exact (mss_cons (ms_if (mt_cmp (om_eq (hu64 hr)) (me_v 1) me_str (nomark _)) (mss_one (ms_ret (me_fldX T.fx_number (me_v 0)))) mss_nil)
    (mss_cons (ms_if (mt_cmp (om_eq (hu64 hr)) (me_v 1) me_str (nomark _)) (mss_one (ms_ret (me_fldX T.fx_layer (me_v 0)))) mss_nil)
    (mss_cons (ms_if (mt_cmp (om_in (hu65 hr)) (me_v 1) (me_tup (ma_cons me_str (ma_cons me_str ma_nil))) (by with_unfolding_all rfl)) (mss_one (ms_ret (me_fldX T.fx_place (me_v 0)))) mss_nil)
    (mss_cons (ms_if (mt_cmp (om_eq (hu64 hr)) (me_v 1) me_str (nomark _)) (mss_one (ms_ret (me_fldX T.fx_at (me_v 0)))) mss_nil)
    (mss_cons (ms_if (mt_cmp (om_eq (hu64 hr)) (me_v 1) me_str (nomark _)) (mss_one (ms_ret (me_fldX T.fx_order (me_v 0)))) mss_nil)
    (mss_cons (ms_if (mt_cmp (om_eq (hu64 hr)) (me_v 1) me_str (nomark _)) (mss_one (ms_ret (me_fldX T.fx_value (me_v 0)))) mss_nil)
    (mss_cons (ms_if (mt_cmp (om_eq (hu64 hr)) (me_v 1) me_str (nomark _)) (mss_one (ms_ret (me_fldX T.fx_event (me_v 0)))) mss_nil)
    (mss_cons (ms_if (mt_cmp (om_eq (hu64 hr)) (me_v 1) me_str (nomark _)) (mss_one (ms_ret (me_fldX T.fx_argument (me_v 0)))) mss_nil)
    (mss_one (ms_ret (me_if (mt_cmp (om_eq (hu64 hr)) (me_v 1) me_str (nomark _)) (me_fldX T.fx_limit (me_v 0)) (me_fldX T.fx_kind (me_v 0)))))))))))))
theorem sc_Fault_init : FnScope [("self" : Str), ("kind" : Str)] [("self" : Str), ("kind" : Str)] (defScope s_Fault_init) := ⟨rfl, rfl, rfl, by decide +kernel, rfl, by decide +kernel, by decide +kernel⟩
theorem ok_Fault_init {fd : FuncData} (T : Tx w K mg) (F : FunD K "__init__" "Fault.__init__" (defArgs s_Fault_init) (defBody s_Fault_init) (defScope s_Fault_init) [] [] (He.ma K (He.ga K "Fault") "__init__") fd) : FnOk P w K mg base (fun _ _ _ _ _ _ => False) 1 (He.ma K (He.ga K "Fault") "__init__") fd [("self" : Str), ("kind" : Str)] (initG K "kind") ∧ (∀ (s : Shared) (a u : Value), K.In s.heap → BindsTo s fd ⟨[a, u], []⟩ ([("self" : Str), ("kind" : Str)].zip [a, u])) ∧ ∀ (s : Shared) (a u : Value), K.In s.heap → BindsTo s fd ⟨[a], [(("kind" : Str), u)]⟩ ([("self" : Str), ("kind" : Str)].zip [a, u]) := by
  refine ⟨exinitG_ok (k := 0) F sc_Fault_init rfl rfl rfl rfl, ?_⟩
  obtain ⟨oc, od, dV, kV, doc, pm, an, cdv, ct, osl, rfl, lk, hcd, hD, _⟩ := F.ex
  rcases hD with ⟨_, rfl⟩ | ⟨e, _⟩
  case inr => exact absurd rfl e
  exact ⟨fun s a u _ => BindsTo.of_eq rfl, fun s a u _ => BindsTo.of_eq rfl⟩
theorem sc_TooMany_init : FnScope [("self" : Str), ("limit" : Str)] [("self" : Str), ("limit" : Str)] (defScope s_TooMany_init) := ⟨rfl, rfl, rfl, by decide +kernel, rfl, by decide +kernel, by decide +kernel⟩
theorem ok_TooMany_init {fd : FuncData} (T : Tx w K mg) (F : FunD K "__init__" "TooMany.__init__" (defArgs s_TooMany_init) (defBody s_TooMany_init) (defScope s_TooMany_init) [] [] (He.ma K (He.ga K "TooMany") "__init__") fd) : FnOk P w K mg base (fun _ _ _ _ _ _ => False) 1 (He.ma K (He.ga K "TooMany") "__init__") fd [("self" : Str), ("limit" : Str)] (initG K "limit") ∧ (∀ (s : Shared) (a u : Value), K.In s.heap → BindsTo s fd ⟨[a, u], []⟩ ([("self" : Str), ("limit" : Str)].zip [a, u])) ∧ ∀ (s : Shared) (a u : Value), K.In s.heap → BindsTo s fd ⟨[a], [(("limit" : Str), u)]⟩ ([("self" : Str), ("limit" : Str)].zip [a, u]) := by
  refine ⟨exinitG_ok (k := 0) F sc_TooMany_init rfl rfl rfl rfl, ?_⟩
  obtain ⟨oc, od, dV, kV, doc, pm, an, cdv, ct, osl, rfl, lk, hcd, hD, _⟩ := F.ex
  rcases hD with ⟨_, rfl⟩ | ⟨e, _⟩
  case inr => exact absurd rfl e
  exact ⟨fun s a u _ => BindsTo.of_eq rfl, fun s a u _ => BindsTo.of_eq rfl⟩
theorem sc_NoKind_init : FnScope [("self" : Str), ("kind" : Str)] [("self" : Str), ("kind" : Str)] (defScope s_NoKind_init) := ⟨rfl, rfl, rfl, by decide +kernel, rfl, by decide +kernel, by decide +kernel⟩
theorem ok_NoKind_init {fd : FuncData} (T : Tx w K mg) (F : FunD K "__init__" "NoKind.__init__" (defArgs s_NoKind_init) (defBody s_NoKind_init) (defScope s_NoKind_init) [] [] (He.ma K (He.ga K "NoKind") "__init__") fd) : FnOk P w K mg base (fun _ _ _ _ _ _ => False) 1 (He.ma K (He.ga K "NoKind") "__init__") fd [("self" : Str), ("kind" : Str)] (initG K "kind") ∧ (∀ (s : Shared) (a u : Value), K.In s.heap → BindsTo s fd ⟨[a, u], []⟩ ([("self" : Str), ("kind" : Str)].zip [a, u])) ∧ ∀ (s : Shared) (a u : Value), K.In s.heap → BindsTo s fd ⟨[a], [(("kind" : Str), u)]⟩ ([("self" : Str), ("kind" : Str)].zip [a, u]) := by
  refine ⟨exinitG_ok (k := 0) F sc_NoKind_init rfl rfl rfl rfl, ?_⟩
  obtain ⟨oc, od, dV, kV, doc, pm, an, cdv, ct, osl, rfl, lk, hcd, hD, _⟩ := F.ex
  rcases hD with ⟨_, rfl⟩ | ⟨e, _⟩
  case inr => exact absurd rfl e
  exact ⟨fun s a u _ => BindsTo.of_eq rfl, fun s a u _ => BindsTo.of_eq rfl⟩
theorem sc_NoArgument_init : FnScope [("self" : Str), ("argument" : Str)] [("self" : Str), ("argument" : Str)] (defScope s_NoArgument_init) := ⟨rfl, rfl, rfl, by decide +kernel, rfl, by decide +kernel, by decide +kernel⟩
theorem ok_NoArgument_init {fd : FuncData} (T : Tx w K mg) (F : FunD K "__init__" "NoArgument.__init__" (defArgs s_NoArgument_init) (defBody s_NoArgument_init) (defScope s_NoArgument_init) [] [] (He.ma K (He.ga K "NoArgument") "__init__") fd) : FnOk P w K mg base (fun _ _ _ _ _ _ => False) 1 (He.ma K (He.ga K "NoArgument") "__init__") fd [("self" : Str), ("argument" : Str)] (initG K "argument") ∧ (∀ (s : Shared) (a u : Value), K.In s.heap → BindsTo s fd ⟨[a, u], []⟩ ([("self" : Str), ("argument" : Str)].zip [a, u])) ∧ ∀ (s : Shared) (a u : Value), K.In s.heap → BindsTo s fd ⟨[a], [(("argument" : Str), u)]⟩ ([("self" : Str), ("argument" : Str)].zip [a, u]) := by
  refine ⟨exinitG_ok (k := 0) F sc_NoArgument_init rfl rfl rfl rfl, ?_⟩
  obtain ⟨oc, od, dV, kV, doc, pm, an, cdv, ct, osl, rfl, lk, hcd, hD, _⟩ := F.ex
  rcases hD with ⟨_, rfl⟩ | ⟨e, _⟩
  case inr => exact absurd rfl e
  exact ⟨fun s a u _ => BindsTo.of_eq rfl, fun s a u _ => BindsTo.of_eq rfl⟩
theorem sc_NoPlace_init : FnScope [("self" : Str), ("place" : Str)] [("self" : Str), ("place" : Str)] (defScope s_NoPlace_init) := ⟨rfl, rfl, rfl, by decide +kernel, rfl, by decide +kernel, by decide +kernel⟩
theorem ok_NoPlace_init {fd : FuncData} (T : Tx w K mg) (F : FunD K "__init__" "NoPlace.__init__" (defArgs s_NoPlace_init) (defBody s_NoPlace_init) (defScope s_NoPlace_init) [] [] (He.ma K (He.ga K "NoPlace") "__init__") fd) : FnOk P w K mg base (fun _ _ _ _ _ _ => False) 1 (He.ma K (He.ga K "NoPlace") "__init__") fd [("self" : Str), ("place" : Str)] (initG K "place") ∧ (∀ (s : Shared) (a u : Value), K.In s.heap → BindsTo s fd ⟨[a, u], []⟩ ([("self" : Str), ("place" : Str)].zip [a, u])) ∧ ∀ (s : Shared) (a u : Value), K.In s.heap → BindsTo s fd ⟨[a], [(("place" : Str), u)]⟩ ([("self" : Str), ("place" : Str)].zip [a, u]) := by
  refine ⟨exinitG_ok (k := 0) F sc_NoPlace_init rfl rfl rfl rfl, ?_⟩
  obtain ⟨oc, od, dV, kV, doc, pm, an, cdv, ct, osl, rfl, lk, hcd, hD, _⟩ := F.ex
  rcases hD with ⟨_, rfl⟩ | ⟨e, _⟩
  case inr => exact absurd rfl e
  exact ⟨fun s a u _ => BindsTo.of_eq rfl, fun s a u _ => BindsTo.of_eq rfl⟩
theorem sc_NoEvent_init : FnScope [("self" : Str), ("event" : Str)] [("self" : Str), ("event" : Str)] (defScope s_NoEvent_init) := ⟨rfl, rfl, rfl, by decide +kernel, rfl, by decide +kernel, by decide +kernel⟩
theorem ok_NoEvent_init {fd : FuncData} (T : Tx w K mg) (F : FunD K "__init__" "NoEvent.__init__" (defArgs s_NoEvent_init) (defBody s_NoEvent_init) (defScope s_NoEvent_init) [] [] (He.ma K (He.ga K "NoEvent") "__init__") fd) : FnOk P w K mg base (fun _ _ _ _ _ _ => False) 1 (He.ma K (He.ga K "NoEvent") "__init__") fd [("self" : Str), ("event" : Str)] (initG K "event") ∧ (∀ (s : Shared) (a u : Value), K.In s.heap → BindsTo s fd ⟨[a, u], []⟩ ([("self" : Str), ("event" : Str)].zip [a, u])) ∧ ∀ (s : Shared) (a u : Value), K.In s.heap → BindsTo s fd ⟨[a], [(("event" : Str), u)]⟩ ([("self" : Str), ("event" : Str)].zip [a, u]) := by
  refine ⟨exinitG_ok (k := 0) F sc_NoEvent_init rfl rfl rfl rfl, ?_⟩
  obtain ⟨oc, od, dV, kV, doc, pm, an, cdv, ct, osl, rfl, lk, hcd, hD, _⟩ := F.ex
  rcases hD with ⟨_, rfl⟩ | ⟨e, _⟩
  case inr => exact absurd rfl e
  exact ⟨fun s a u _ => BindsTo.of_eq rfl, fun s a u _ => BindsTo.of_eq rfl⟩
theorem sc_NoAnswer_init : FnScope [("self" : Str), ("value" : Str)] [("self" : Str), ("value" : Str)] (defScope s_NoAnswer_init) := ⟨rfl, rfl, rfl, by decide +kernel, rfl, by decide +kernel, by decide +kernel⟩
theorem ok_NoAnswer_init {fd : FuncData} (T : Tx w K mg) (F : FunD K "__init__" "NoAnswer.__init__" (defArgs s_NoAnswer_init) (defBody s_NoAnswer_init) (defScope s_NoAnswer_init) [] [] (He.ma K (He.ga K "NoAnswer") "__init__") fd) : FnOk P w K mg base (fun _ _ _ _ _ _ => False) 1 (He.ma K (He.ga K "NoAnswer") "__init__") fd [("self" : Str), ("value" : Str)] (initG K "value") ∧ (∀ (s : Shared) (a u : Value), K.In s.heap → BindsTo s fd ⟨[a, u], []⟩ ([("self" : Str), ("value" : Str)].zip [a, u])) ∧ ∀ (s : Shared) (a u : Value), K.In s.heap → BindsTo s fd ⟨[a], [(("value" : Str), u)]⟩ ([("self" : Str), ("value" : Str)].zip [a, u]) := by
  refine ⟨exinitG_ok (k := 0) F sc_NoAnswer_init rfl rfl rfl rfl, ?_⟩
  obtain ⟨oc, od, dV, kV, doc, pm, an, cdv, ct, osl, rfl, lk, hcd, hD, _⟩ := F.ex
  rcases hD with ⟨_, rfl⟩ | ⟨e, _⟩
  case inr => exact absurd rfl e
  exact ⟨fun s a u _ => BindsTo.of_eq rfl, fun s a u _ => BindsTo.of_eq rfl⟩
theorem sc_NoOrder_init : FnScope [("self" : Str), ("order" : Str)] [("self" : Str), ("order" : Str)] (defScope s_NoOrder_init) := ⟨rfl, rfl, rfl, by decide +kernel, rfl, by decide +kernel, by decide +kernel⟩
theorem ok_NoOrder_init {fd : FuncData} (T : Tx w K mg) (F : FunD K "__init__" "NoOrder.__init__" (defArgs s_NoOrder_init) (defBody s_NoOrder_init) (defScope s_NoOrder_init) [] [] (He.ma K (He.ga K "NoOrder") "__init__") fd) : FnOk P w K mg base (fun _ _ _ _ _ _ => False) 1 (He.ma K (He.ga K "NoOrder") "__init__") fd [("self" : Str), ("order" : Str)] (initG K "order") ∧ (∀ (s : Shared) (a u : Value), K.In s.heap → BindsTo s fd ⟨[a, u], []⟩ ([("self" : Str), ("order" : Str)].zip [a, u])) ∧ ∀ (s : Shared) (a u : Value), K.In s.heap → BindsTo s fd ⟨[a], [(("order" : Str), u)]⟩ ([("self" : Str), ("order" : Str)].zip [a, u]) := by
  refine ⟨exinitG_ok (k := 0) F sc_NoOrder_init rfl rfl rfl rfl, ?_⟩
  obtain ⟨oc, od, dV, kV, doc, pm, an, cdv, ct, osl, rfl, lk, hcd, hD, _⟩ := F.ex
  rcases hD with ⟨_, rfl⟩ | ⟨e, _⟩
  case inr => exact absurd rfl e
  exact ⟨fun s a u _ => BindsTo.of_eq rfl, fun s a u _ => BindsTo.of_eq rfl⟩
theorem sc_NoHistory_init : FnScope [("self" : Str), ("at" : Str)] [("self" : Str), ("at" : Str)] (defScope s_NoHistory_init) := ⟨rfl, rfl, rfl, by decide +kernel, rfl, by decide +kernel, by decide +kernel⟩
theorem ok_NoHistory_init {fd : FuncData} (T : Tx w K mg) (F : FunD K "__init__" "NoHistory.__init__" (defArgs s_NoHistory_init) (defBody s_NoHistory_init) (defScope s_NoHistory_init) [] [] (He.ma K (He.ga K "NoHistory") "__init__") fd) : FnOk P w K mg base (fun _ _ _ _ _ _ => False) 1 (He.ma K (He.ga K "NoHistory") "__init__") fd [("self" : Str), ("at" : Str)] (initG K "at") ∧ (∀ (s : Shared) (a u : Value), K.In s.heap → BindsTo s fd ⟨[a, u], []⟩ ([("self" : Str), ("at" : Str)].zip [a, u])) ∧ ∀ (s : Shared) (a u : Value), K.In s.heap → BindsTo s fd ⟨[a], [(("at" : Str), u)]⟩ ([("self" : Str), ("at" : Str)].zip [a, u]) := by
  refine ⟨exinitG_ok (k := 0) F sc_NoHistory_init rfl rfl rfl rfl, ?_⟩
  obtain ⟨oc, od, dV, kV, doc, pm, an, cdv, ct, osl, rfl, lk, hcd, hD, _⟩ := F.ex
  rcases hD with ⟨_, rfl⟩ | ⟨e, _⟩
  case inr => exact absurd rfl e
  exact ⟨fun s a u _ => BindsTo.of_eq rfl, fun s a u _ => BindsTo.of_eq rfl⟩
theorem sc_NoText_init : FnScope [("self" : Str), ("place" : Str)] [("self" : Str), ("place" : Str)] (defScope s_NoText_init) := ⟨rfl, rfl, rfl, by decide +kernel, rfl, by decide +kernel, by decide +kernel⟩
theorem ok_NoText_init {fd : FuncData} (T : Tx w K mg) (F : FunD K "__init__" "NoText.__init__" (defArgs s_NoText_init) (defBody s_NoText_init) (defScope s_NoText_init) [] [] (He.ma K (He.ga K "NoText") "__init__") fd) : FnOk P w K mg base (fun _ _ _ _ _ _ => False) 1 (He.ma K (He.ga K "NoText") "__init__") fd [("self" : Str), ("place" : Str)] (initG K "place") ∧ (∀ (s : Shared) (a u : Value), K.In s.heap → BindsTo s fd ⟨[a, u], []⟩ ([("self" : Str), ("place" : Str)].zip [a, u])) ∧ ∀ (s : Shared) (a u : Value), K.In s.heap → BindsTo s fd ⟨[a], [(("place" : Str), u)]⟩ ([("self" : Str), ("place" : Str)].zip [a, u]) := by
  refine ⟨exinitG_ok (k := 0) F sc_NoText_init rfl rfl rfl rfl, ?_⟩
  obtain ⟨oc, od, dV, kV, doc, pm, an, cdv, ct, osl, rfl, lk, hcd, hD, _⟩ := F.ex
  rcases hD with ⟨_, rfl⟩ | ⟨e, _⟩
  case inr => exact absurd rfl e
  exact ⟨fun s a u _ => BindsTo.of_eq rfl, fun s a u _ => BindsTo.of_eq rfl⟩
theorem sc_NoLayer_init : FnScope [("self" : Str), ("layer" : Str)] [("self" : Str), ("layer" : Str)] (defScope s_NoLayer_init) := ⟨rfl, rfl, rfl, by decide +kernel, rfl, by decide +kernel, by decide +kernel⟩
theorem ok_NoLayer_init {fd : FuncData} (T : Tx w K mg) (F : FunD K "__init__" "NoLayer.__init__" (defArgs s_NoLayer_init) (defBody s_NoLayer_init) (defScope s_NoLayer_init) [] [] (He.ma K (He.ga K "NoLayer") "__init__") fd) : FnOk P w K mg base (fun _ _ _ _ _ _ => False) 1 (He.ma K (He.ga K "NoLayer") "__init__") fd [("self" : Str), ("layer" : Str)] (initG K "layer") ∧ (∀ (s : Shared) (a u : Value), K.In s.heap → BindsTo s fd ⟨[a, u], []⟩ ([("self" : Str), ("layer" : Str)].zip [a, u])) ∧ ∀ (s : Shared) (a u : Value), K.In s.heap → BindsTo s fd ⟨[a], [(("layer" : Str), u)]⟩ ([("self" : Str), ("layer" : Str)].zip [a, u]) := by
  refine ⟨exinitG_ok (k := 0) F sc_NoLayer_init rfl rfl rfl rfl, ?_⟩
  obtain ⟨oc, od, dV, kV, doc, pm, an, cdv, ct, osl, rfl, lk, hcd, hD, _⟩ := F.ex
  rcases hD with ⟨_, rfl⟩ | ⟨e, _⟩
  case inr => exact absurd rfl e
  exact ⟨fun s a u _ => BindsTo.of_eq rfl, fun s a u _ => BindsTo.of_eq rfl⟩
theorem sc_NoShape_init : FnScope [("self" : Str), ("number" : Str)] [("self" : Str), ("number" : Str)] (defScope s_NoShape_init) := ⟨rfl, rfl, rfl, by decide +kernel, rfl, by decide +kernel, by decide +kernel⟩
theorem ok_NoShape_init {fd : FuncData} (T : Tx w K mg) (F : FunD K "__init__" "NoShape.__init__" (defArgs s_NoShape_init) (defBody s_NoShape_init) (defScope s_NoShape_init) [] [] (He.ma K (He.ga K "NoShape") "__init__") fd) : FnOk P w K mg base (fun _ _ _ _ _ _ => False) 1 (He.ma K (He.ga K "NoShape") "__init__") fd [("self" : Str), ("number" : Str)] (initG K "number") ∧ (∀ (s : Shared) (a u : Value), K.In s.heap → BindsTo s fd ⟨[a, u], []⟩ ([("self" : Str), ("number" : Str)].zip [a, u])) ∧ ∀ (s : Shared) (a u : Value), K.In s.heap → BindsTo s fd ⟨[a], [(("number" : Str), u)]⟩ ([("self" : Str), ("number" : Str)].zip [a, u]) := by
  refine ⟨exinitG_ok (k := 0) F sc_NoShape_init rfl rfl rfl rfl, ?_⟩
  obtain ⟨oc, od, dV, kV, doc, pm, an, cdv, ct, osl, rfl, lk, hcd, hD, _⟩ := F.ex
  rcases hD with ⟨_, rfl⟩ | ⟨e, _⟩
  case inr => exact absurd rfl e
  exact ⟨fun s a u _ => BindsTo.of_eq rfl, fun s a u _ => BindsTo.of_eq rfl⟩
theorem sc__law_take : FnScope [("_law_bag_here" : Str), ("_law_many" : Str), ("_law_mixed" : Str), ("_law_digit" : Str)] [("_law_bag_here" : Str), ("_law_many" : Str)] (defScope s__law_take) := ⟨rfl, rfl, rfl, by decide +kernel, rfl, by decide +kernel, by decide +kernel⟩
theorem ok__law_take {fd : FuncData} (T : Tx w K mg) (F : FunD K "_law_take" "_law_take" (defArgs s__law_take) (defBody s__law_take) (defScope s__law_take) [] [] (He.ga K "_law_take") fd) : FnM P w K mg base 1 (He.ga K "_law_take") fd [("_law_bag_here" : Str), ("_law_many" : Str)] m__law_take := by
  refine fnM_of F sc__law_take fun cdv A outer s H E hr hg => ?_
  have hgd : (A.deeper (envOfC "_law_take" (defScope s__law_take) s.heap.objs.size (He.ga K "_law_take") cdv)).guards = some [] := hg
  have tk := L2N.takes_of (X := cxOf (L2N.CX P w) P w K mg base [("_law_bag_here" : Str), ("_law_many" : Str), ("_law_mixed" : Str), ("_law_digit" : Str)] "_law_take" (defScope s__law_take) (He.ga K "_law_take") cdv A outer s H E) rfl rfl rfl rfl
  exact (mss_cons (ms_if (mt_cmp om_gt (me_ix ixm (me_v 0) me_int (fun _ _ => rfl)) me_int (nomark _)) (mss_cons (ms_set 3 sc__law_take.nd rfl (by first | exact Or.inl rfl | exact Or.inr rfl) (me_op om_mod (me_ix ixm (me_v 0) me_int (fun _ _ => rfl)) (me_v 1)))
    (mss_cons (ms_asgT' (me_op om_fdiv (me_ix ixm (me_v 0) me_int (fun _ _ => rfl)) (me_v 1)) (mg_sub (me_v 0) me_int))
    (mss_one (ms_ret (me_v 3))))) mss_nil)
    (mss_cons (ms_asgT' (me_op om_add (me_ix ixm (me_v 0) me_int (fun _ _ => rfl)) me_int) (mg_sub (me_v 0) me_int))
    (mss_cons (ms_set 2 sc__law_take.nd rfl (by first | exact Or.inl rfl | exact Or.inr rfl) (me_op om_mod (me_op om_pow (me_op om_add (me_ix ixm (me_v 0) me_int (fun _ _ => rfl)) (me_op om_mul' me_int (me_ix ixm (me_v 0) me_int (fun _ _ => rfl)))) me_int) me_int))
    (mss_cons (ms_set 2 sc__law_take.nd rfl (by first | exact Or.inl rfl | exact Or.inr rfl) (me_op om_mod (me_op om_pow (me_op om_add (me_v 2) (me_op om_mul' me_int (me_ix ixm (me_v 0) me_int (fun _ _ => rfl)))) me_int) me_int))
    (mss_one (ms_ret (me_op om_mod (me_op om_fdiv (me_v 2) me_int) (me_v 1))))))))
theorem sc__law_any : FnScope [("_law_bag_here" : Str), ("_law_some" : Str)] [("_law_bag_here" : Str)] (defScope s__law_any) := ⟨rfl, rfl, rfl, by decide +kernel, rfl, by decide +kernel, by decide +kernel⟩
theorem ok__law_any {fd : FuncData} (T : Tx w K mg) (F : FunD K "_law_any" "_law_any" (defArgs s__law_any) (defBody s__law_any) (defScope s__law_any) [] [] (He.ga K "_law_any") fd) {fd__law_take : FuncData} (F__law_take : FnM P w K mg base 1 (He.ga K "_law_take") fd__law_take [("_law_bag_here" : Str), ("_law_many" : Str)] m__law_take) (E_ab__law_take_2 : AB P w K mg base fd__law_take [("_law_bag_here" : Str), ("_law_many" : Str)] 2 [] (fun ds _ => ds)) : FnM P w K mg base 2 (He.ga K "_law_any") fd [("_law_bag_here" : Str)] m__law_any := by
  refine fnM_of F sc__law_any fun cdv A outer s H E hr hg => ?_
  have hgd : (A.deeper (envOfC "_law_any" (defScope s__law_any) s.heap.objs.size (He.ga K "_law_any") cdv)).guards = some [] := hg
  have tk := L2N.takes_of (X := cxOf (L2N.CX P w) P w K mg base [("_law_bag_here" : Str), ("_law_some" : Str)] "_law_any" (defScope s__law_any) (He.ga K "_law_any") cdv A outer s H E) rfl rfl rfl rfl
  exact (mss_cons (ms_set 1 sc__law_any.nd rfl (by first | exact Or.inl rfl | exact Or.inr rfl) (me_lst (ma_cons me_non (ma_cons me_bl (ma_cons me_bl (ma_cons me_int (ma_cons me_int (ma_cons me_int (ma_cons me_int (ma_cons (me_un um_neg me_int) (ma_cons me_int (ma_cons me_int (ma_cons (me_op om_pow me_int me_int) (ma_cons me_str (ma_cons me_str (ma_cons me_str (ma_cons me_str (ma_cons me_str (ma_cons me_str (ma_cons (me_lst ma_nil) (ma_cons (me_tup ma_nil) ma_nil)))))))))))))))))))))
    (mss_cons (ms_set 1 sc__law_any.nd rfl (by first | exact Or.inl rfl | exact Or.inr rfl) (me_catN T.nokl (me_v 1) (me_lst (ma_cons (me_tup (ma_cons me_int ma_nil)) (ma_cons (me_tup (ma_cons me_int ma_nil)) (ma_cons (me_tup (ma_cons me_int (ma_cons me_int ma_nil))) (ma_cons (me_tup (ma_cons me_int (ma_cons me_int ma_nil))) (ma_cons (me_tup (ma_cons me_int (ma_cons me_int ma_nil))) (ma_cons (me_lst (ma_cons me_int ma_nil)) (ma_cons (me_tup (ma_cons me_bl ma_nil)) (ma_cons (me_tup (ma_cons me_str ma_nil)) (ma_cons (me_lst (ma_cons me_str ma_nil)) (ma_cons (me_tup (ma_cons me_str ma_nil)) ma_nil)))))))))))))
    (mss_cons (ms_expr (me_app (me_v 1) (ma_cons (me_tup (ma_cons me_str (ma_cons me_int (ma_cons (me_tup (ma_cons me_int ma_nil)) ma_nil)))) ma_nil)))
    (mss_one (ms_ret (me_ix ixm (me_v 1) (me_call F__law_take E_ab__law_take_2 (hr.mono (by decide)) hgd tk rfl T.g__law_take T.k__law_take (ma_cons (me_v 0) (ma_cons me_int ma_nil))) (fun _ _ => rfl)))))))
theorem sc__law_bag : FnScope [("_law_script" : Str), ("_law_spot" : Str), ("_law_cell" : Str), ("_law_digits" : Str)] [("_law_script" : Str), ("_law_spot" : Str)] (defScope s__law_bag) := ⟨rfl, rfl, rfl, by decide +kernel, rfl, by decide +kernel, by decide +kernel⟩
theorem ok__law_bag {fd : FuncData} (T : Tx w K mg) (F : FunD K "_law_bag" "_law_bag" (defArgs s__law_bag) (defBody s__law_bag) (defScope s__law_bag) [] [] (He.ga K "_law_bag") fd) : FnM P w K mg base 1 (He.ga K "_law_bag") fd [("_law_script" : Str), ("_law_spot" : Str)] m__law_bag := by
  refine fnM_of F sc__law_bag fun cdv A outer s H E hr hg => ?_
  have hgd : (A.deeper (envOfC "_law_bag" (defScope s__law_bag) s.heap.objs.size (He.ga K "_law_bag") cdv)).guards = some [] := hg
  have tk := L2N.takes_of (X := cxOf (L2N.CX P w) P w K mg base [("_law_script" : Str), ("_law_spot" : Str), ("_law_cell" : Str), ("_law_digits" : Str)] "_law_bag" (defScope s__law_bag) (He.ga K "_law_bag") cdv A outer s H E) rfl rfl rfl rfl
  exact (mss_cons (ms_set 2 sc__law_bag.nd rfl (by first | exact Or.inl rfl | exact Or.inr rfl) (me_if (mt_cmp om_lt (me_v 1) (me_cb cm_len (by rfl) T.f_len (by decide +kernel) (ma_cons (me_v 0) ma_nil)) (nomark _)) (me_ix ixm (me_v 0) (me_v 1) (fun _ _ => rfl)) me_int))
    (mss_cons (ms_set 3 sc__law_bag.nd rfl (by first | exact Or.inl rfl | exact Or.inr rfl) (me_if (mt_cmp om_ge (me_cb cm_abs (by rfl) T.f_abs (by decide +kernel) (ma_cons (me_v 2) ma_nil)) (me_op om_pow me_int me_int) (nomark _)) (me_cb cm_abs (by rfl) T.f_abs (by decide +kernel) (ma_cons (me_v 2) ma_nil)) me_int))
    (mss_one (ms_ret (me_new (ma_cons (me_v 3) (ma_cons (me_op om_mod (me_op om_mul' (me_op om_add (me_op om_add (me_op om_mod (me_v 2) me_int) (me_op om_mul' me_int (me_v 1))) me_int) me_int) me_int) (ma_cons me_int ma_nil))))))))
theorem sc_law : FnScope [("_law_script" : Str), ("_law_turn" : Str), ("_law_bag_here" : Str), ("_law_one" : Str), ("_law_two" : Str), ("_law_pairs" : Str), ("_law_word" : Str), ("_law_first" : Str), ("_law_second" : Str), ("_law_bare" : Str), ("_law_e" : Str)] [("_law_script" : Str)] (defScope s_law) := ⟨rfl, rfl, rfl, by decide +kernel, rfl, by decide +kernel, by decide +kernel⟩
theorem ok_law {fd : FuncData} (T : Tx w K mg) (F : FunD K "law" "law" (defArgs s_law) (defBody s_law) (defScope s_law) [] [] (He.ga K "law") fd) {fd__law_kind : FuncData} (F__law_kind : FnM P w K mg base 1 (He.ga K "_law_kind") fd__law_kind [("_law_e" : Str)] m__law_kind) (E_ab__law_kind_1 : AB P w K mg base fd__law_kind [("_law_e" : Str)] 1 [] (fun ds _ => ds)) {fd__law_field : FuncData} (F__law_field : FnM P w K mg base 1 (He.ga K "_law_field") fd__law_field [("_law_e" : Str), ("_law_word" : Str)] m__law_field) (E_ab__law_field_2 : AB P w K mg base fd__law_field [("_law_e" : Str), ("_law_word" : Str)] 2 [] (fun ds _ => ds)) {fd_Fault_init : FuncData} (F_Fault_init : FnOk P w K mg base (fun _ _ _ _ _ _ => False) 1 (He.ma K (He.ga K "Fault") "__init__") fd_Fault_init [("self" : Str), ("kind" : Str)] (initG K "kind") ∧ (∀ (s : Shared) (a u : Value), K.In s.heap → BindsTo s fd_Fault_init ⟨[a, u], []⟩ ([("self" : Str), ("kind" : Str)].zip [a, u])) ∧ ∀ (s : Shared) (a u : Value), K.In s.heap → BindsTo s fd_Fault_init ⟨[a], [(("kind" : Str), u)]⟩ ([("self" : Str), ("kind" : Str)].zip [a, u])) {fd_TooMany_init : FuncData} (F_TooMany_init : FnOk P w K mg base (fun _ _ _ _ _ _ => False) 1 (He.ma K (He.ga K "TooMany") "__init__") fd_TooMany_init [("self" : Str), ("limit" : Str)] (initG K "limit") ∧ (∀ (s : Shared) (a u : Value), K.In s.heap → BindsTo s fd_TooMany_init ⟨[a, u], []⟩ ([("self" : Str), ("limit" : Str)].zip [a, u])) ∧ ∀ (s : Shared) (a u : Value), K.In s.heap → BindsTo s fd_TooMany_init ⟨[a], [(("limit" : Str), u)]⟩ ([("self" : Str), ("limit" : Str)].zip [a, u])) {fd_NoKind_init : FuncData} (F_NoKind_init : FnOk P w K mg base (fun _ _ _ _ _ _ => False) 1 (He.ma K (He.ga K "NoKind") "__init__") fd_NoKind_init [("self" : Str), ("kind" : Str)] (initG K "kind") ∧ (∀ (s : Shared) (a u : Value), K.In s.heap → BindsTo s fd_NoKind_init ⟨[a, u], []⟩ ([("self" : Str), ("kind" : Str)].zip [a, u])) ∧ ∀ (s : Shared) (a u : Value), K.In s.heap → BindsTo s fd_NoKind_init ⟨[a], [(("kind" : Str), u)]⟩ ([("self" : Str), ("kind" : Str)].zip [a, u])) {fd_NoArgument_init : FuncData} (F_NoArgument_init : FnOk P w K mg base (fun _ _ _ _ _ _ => False) 1 (He.ma K (He.ga K "NoArgument") "__init__") fd_NoArgument_init [("self" : Str), ("argument" : Str)] (initG K "argument") ∧ (∀ (s : Shared) (a u : Value), K.In s.heap → BindsTo s fd_NoArgument_init ⟨[a, u], []⟩ ([("self" : Str), ("argument" : Str)].zip [a, u])) ∧ ∀ (s : Shared) (a u : Value), K.In s.heap → BindsTo s fd_NoArgument_init ⟨[a], [(("argument" : Str), u)]⟩ ([("self" : Str), ("argument" : Str)].zip [a, u])) {fd_NoPlace_init : FuncData} (F_NoPlace_init : FnOk P w K mg base (fun _ _ _ _ _ _ => False) 1 (He.ma K (He.ga K "NoPlace") "__init__") fd_NoPlace_init [("self" : Str), ("place" : Str)] (initG K "place") ∧ (∀ (s : Shared) (a u : Value), K.In s.heap → BindsTo s fd_NoPlace_init ⟨[a, u], []⟩ ([("self" : Str), ("place" : Str)].zip [a, u])) ∧ ∀ (s : Shared) (a u : Value), K.In s.heap → BindsTo s fd_NoPlace_init ⟨[a], [(("place" : Str), u)]⟩ ([("self" : Str), ("place" : Str)].zip [a, u])) {fd_NoEvent_init : FuncData} (F_NoEvent_init : FnOk P w K mg base (fun _ _ _ _ _ _ => False) 1 (He.ma K (He.ga K "NoEvent") "__init__") fd_NoEvent_init [("self" : Str), ("event" : Str)] (initG K "event") ∧ (∀ (s : Shared) (a u : Value), K.In s.heap → BindsTo s fd_NoEvent_init ⟨[a, u], []⟩ ([("self" : Str), ("event" : Str)].zip [a, u])) ∧ ∀ (s : Shared) (a u : Value), K.In s.heap → BindsTo s fd_NoEvent_init ⟨[a], [(("event" : Str), u)]⟩ ([("self" : Str), ("event" : Str)].zip [a, u])) {fd_NoAnswer_init : FuncData} (F_NoAnswer_init : FnOk P w K mg base (fun _ _ _ _ _ _ => False) 1 (He.ma K (He.ga K "NoAnswer") "__init__") fd_NoAnswer_init [("self" : Str), ("value" : Str)] (initG K "value") ∧ (∀ (s : Shared) (a u : Value), K.In s.heap → BindsTo s fd_NoAnswer_init ⟨[a, u], []⟩ ([("self" : Str), ("value" : Str)].zip [a, u])) ∧ ∀ (s : Shared) (a u : Value), K.In s.heap → BindsTo s fd_NoAnswer_init ⟨[a], [(("value" : Str), u)]⟩ ([("self" : Str), ("value" : Str)].zip [a, u])) {fd_NoOrder_init : FuncData} (F_NoOrder_init : FnOk P w K mg base (fun _ _ _ _ _ _ => False) 1 (He.ma K (He.ga K "NoOrder") "__init__") fd_NoOrder_init [("self" : Str), ("order" : Str)] (initG K "order") ∧ (∀ (s : Shared) (a u : Value), K.In s.heap → BindsTo s fd_NoOrder_init ⟨[a, u], []⟩ ([("self" : Str), ("order" : Str)].zip [a, u])) ∧ ∀ (s : Shared) (a u : Value), K.In s.heap → BindsTo s fd_NoOrder_init ⟨[a], [(("order" : Str), u)]⟩ ([("self" : Str), ("order" : Str)].zip [a, u])) {fd_NoHistory_init : FuncData} (F_NoHistory_init : FnOk P w K mg base (fun _ _ _ _ _ _ => False) 1 (He.ma K (He.ga K "NoHistory") "__init__") fd_NoHistory_init [("self" : Str), ("at" : Str)] (initG K "at") ∧ (∀ (s : Shared) (a u : Value), K.In s.heap → BindsTo s fd_NoHistory_init ⟨[a, u], []⟩ ([("self" : Str), ("at" : Str)].zip [a, u])) ∧ ∀ (s : Shared) (a u : Value), K.In s.heap → BindsTo s fd_NoHistory_init ⟨[a], [(("at" : Str), u)]⟩ ([("self" : Str), ("at" : Str)].zip [a, u])) {fd_NoText_init : FuncData} (F_NoText_init : FnOk P w K mg base (fun _ _ _ _ _ _ => False) 1 (He.ma K (He.ga K "NoText") "__init__") fd_NoText_init [("self" : Str), ("place" : Str)] (initG K "place") ∧ (∀ (s : Shared) (a u : Value), K.In s.heap → BindsTo s fd_NoText_init ⟨[a, u], []⟩ ([("self" : Str), ("place" : Str)].zip [a, u])) ∧ ∀ (s : Shared) (a u : Value), K.In s.heap → BindsTo s fd_NoText_init ⟨[a], [(("place" : Str), u)]⟩ ([("self" : Str), ("place" : Str)].zip [a, u])) {fd_NoLayer_init : FuncData} (F_NoLayer_init : FnOk P w K mg base (fun _ _ _ _ _ _ => False) 1 (He.ma K (He.ga K "NoLayer") "__init__") fd_NoLayer_init [("self" : Str), ("layer" : Str)] (initG K "layer") ∧ (∀ (s : Shared) (a u : Value), K.In s.heap → BindsTo s fd_NoLayer_init ⟨[a, u], []⟩ ([("self" : Str), ("layer" : Str)].zip [a, u])) ∧ ∀ (s : Shared) (a u : Value), K.In s.heap → BindsTo s fd_NoLayer_init ⟨[a], [(("layer" : Str), u)]⟩ ([("self" : Str), ("layer" : Str)].zip [a, u])) {fd_NoShape_init : FuncData} (F_NoShape_init : FnOk P w K mg base (fun _ _ _ _ _ _ => False) 1 (He.ma K (He.ga K "NoShape") "__init__") fd_NoShape_init [("self" : Str), ("number" : Str)] (initG K "number") ∧ (∀ (s : Shared) (a u : Value), K.In s.heap → BindsTo s fd_NoShape_init ⟨[a, u], []⟩ ([("self" : Str), ("number" : Str)].zip [a, u])) ∧ ∀ (s : Shared) (a u : Value), K.In s.heap → BindsTo s fd_NoShape_init ⟨[a], [(("number" : Str), u)]⟩ ([("self" : Str), ("number" : Str)].zip [a, u])) {fd__law_any : FuncData} (F__law_any : FnM P w K mg base 2 (He.ga K "_law_any") fd__law_any [("_law_bag_here" : Str)] m__law_any) (E_ab__law_any_1 : AB P w K mg base fd__law_any [("_law_bag_here" : Str)] 1 [] (fun ds _ => ds)) {fd__law_bag : FuncData} (F__law_bag : FnM P w K mg base 1 (He.ga K "_law_bag") fd__law_bag [("_law_script" : Str), ("_law_spot" : Str)] m__law_bag) (E_ab__law_bag_2 : AB P w K mg base fd__law_bag [("_law_script" : Str), ("_law_spot" : Str)] 2 [] (fun ds _ => ds)) : FnM P w K mg base 4 (He.ga K "law") fd [("_law_script" : Str)] m_law := by
  refine fnM_of F sc_law fun cdv A outer s H E hr hg => ?_
  have hgd : (A.deeper (envOfC "law" (defScope s_law) s.heap.objs.size (He.ga K "law") cdv)).guards = some [] := hg
  have tk := L2N.takes_of (X := cxOf (L2N.CX P w) P w K mg base [("_law_script" : Str), ("_law_turn" : Str), ("_law_bag_here" : Str), ("_law_one" : Str), ("_law_two" : Str), ("_law_pairs" : Str), ("_law_word" : Str), ("_law_first" : Str), ("_law_second" : Str), ("_law_bare" : Str), ("_law_e" : Str)] "law" (defScope s_law) (He.ga K "law") cdv A outer s H E) rfl rfl rfl rfl
  exact (mss_cons (ms_for 100 (passes_of rfl) rfl (mi_range1 rfl T.f_range (ma_cons (me_cb (cm_max rfl) (by rfl) T.f_max (by decide +kernel) (ma_cons me_int (ma_cons (me_cb (cm_min rfl) (by rfl) T.f_min (by decide +kernel) (ma_cons me_int (ma_cons (me_cb cm_len (by rfl) T.f_len (by decide +kernel) (ma_cons (me_v 0) ma_nil)) ma_nil))) ma_nil))) ma_nil)) (mg_n 1 sc_law.nd rfl (by first | exact Or.inl rfl | exact Or.inr rfl)) (mss_cons (ms_set 2 sc_law.nd rfl (by first | exact Or.inl rfl | exact Or.inr rfl) (me_call F__law_bag E_ab__law_bag_2 (hr.mono (by decide)) hgd tk rfl T.g__law_bag T.k__law_bag (ma_cons (me_v 0) (ma_cons (me_v 1) ma_nil))))
    (mss_cons (ms_par rfl sc_law.nd rfl rfl (by decide) rfl rfl (ma_cons (me_call F__law_any E_ab__law_any_1 (hr.mono (by decide)) hgd tk rfl T.g__law_any T.k__law_any (ma_cons (me_v 2) ma_nil)) (ma_cons (me_call F__law_any E_ab__law_any_1 (hr.mono (by decide)) hgd tk rfl T.g__law_any T.k__law_any (ma_cons (me_v 2) ma_nil)) ma_nil)) (by rfl))
    (mss_cons (ms_set 5 sc_law.nd rfl (by first | exact Or.inl rfl | exact Or.inr rfl) (me_new (ma_cons (me_tup (ma_cons me_str (ma_cons (me_mkG ⟨T.xg_NoShape.T, T.xg_NoShape.no, ⟨_, _, _, T.me_NoShape___init__.at_, beq_iff_eq.mp T.me_NoShape___init__.fn, F_NoShape_init.1, (hr.mono (by decide)), F_NoShape_init.2.1, F_NoShape_init.2.2⟩⟩ rfl T.g_NoShape (ma_cons (me_v 3) ma_nil)) (ma_cons (me_mkGK ⟨T.xg_NoShape.T, T.xg_NoShape.no, ⟨_, _, _, T.me_NoShape___init__.at_, beq_iff_eq.mp T.me_NoShape___init__.fn, F_NoShape_init.1, (hr.mono (by decide)), F_NoShape_init.2.1, F_NoShape_init.2.2⟩⟩ rfl T.g_NoShape (mk_cons (me_v 4) mk_nil)) ma_nil)))) ma_nil)))
    (mss_cons (ms_expr (me_app (me_v 5) (ma_cons (me_tup (ma_cons me_str (ma_cons (me_mkG ⟨T.xg_NoLayer.T, T.xg_NoLayer.no, ⟨_, _, _, T.me_NoLayer___init__.at_, beq_iff_eq.mp T.me_NoLayer___init__.fn, F_NoLayer_init.1, (hr.mono (by decide)), F_NoLayer_init.2.1, F_NoLayer_init.2.2⟩⟩ rfl T.g_NoLayer (ma_cons (me_v 3) ma_nil)) (ma_cons (me_mkGK ⟨T.xg_NoLayer.T, T.xg_NoLayer.no, ⟨_, _, _, T.me_NoLayer___init__.at_, beq_iff_eq.mp T.me_NoLayer___init__.fn, F_NoLayer_init.1, (hr.mono (by decide)), F_NoLayer_init.2.1, F_NoLayer_init.2.2⟩⟩ rfl T.g_NoLayer (mk_cons (me_v 4) mk_nil)) ma_nil)))) ma_nil)))
    (mss_cons (ms_expr (me_app (me_v 5) (ma_cons (me_tup (ma_cons me_str (ma_cons (me_mkG ⟨T.xg_NoText.T, T.xg_NoText.no, ⟨_, _, _, T.me_NoText___init__.at_, beq_iff_eq.mp T.me_NoText___init__.fn, F_NoText_init.1, (hr.mono (by decide)), F_NoText_init.2.1, F_NoText_init.2.2⟩⟩ rfl T.g_NoText (ma_cons (me_v 3) ma_nil)) (ma_cons (me_mkGK ⟨T.xg_NoText.T, T.xg_NoText.no, ⟨_, _, _, T.me_NoText___init__.at_, beq_iff_eq.mp T.me_NoText___init__.fn, F_NoText_init.1, (hr.mono (by decide)), F_NoText_init.2.1, F_NoText_init.2.2⟩⟩ rfl T.g_NoText (mk_cons (me_v 4) mk_nil)) ma_nil)))) ma_nil)))
    (mss_cons (ms_expr (me_app (me_v 5) (ma_cons (me_tup (ma_cons me_str (ma_cons (me_mkG ⟨T.xg_NoHistory.T, T.xg_NoHistory.no, ⟨_, _, _, T.me_NoHistory___init__.at_, beq_iff_eq.mp T.me_NoHistory___init__.fn, F_NoHistory_init.1, (hr.mono (by decide)), F_NoHistory_init.2.1, F_NoHistory_init.2.2⟩⟩ rfl T.g_NoHistory (ma_cons (me_v 3) ma_nil)) (ma_cons (me_mkGK ⟨T.xg_NoHistory.T, T.xg_NoHistory.no, ⟨_, _, _, T.me_NoHistory___init__.at_, beq_iff_eq.mp T.me_NoHistory___init__.fn, F_NoHistory_init.1, (hr.mono (by decide)), F_NoHistory_init.2.1, F_NoHistory_init.2.2⟩⟩ rfl T.g_NoHistory (mk_cons (me_v 4) mk_nil)) ma_nil)))) ma_nil)))
    (mss_cons (ms_expr (me_app (me_v 5) (ma_cons (me_tup (ma_cons me_str (ma_cons (me_mkG ⟨T.xg_NoOrder.T, T.xg_NoOrder.no, ⟨_, _, _, T.me_NoOrder___init__.at_, beq_iff_eq.mp T.me_NoOrder___init__.fn, F_NoOrder_init.1, (hr.mono (by decide)), F_NoOrder_init.2.1, F_NoOrder_init.2.2⟩⟩ rfl T.g_NoOrder (ma_cons (me_v 3) ma_nil)) (ma_cons (me_mkGK ⟨T.xg_NoOrder.T, T.xg_NoOrder.no, ⟨_, _, _, T.me_NoOrder___init__.at_, beq_iff_eq.mp T.me_NoOrder___init__.fn, F_NoOrder_init.1, (hr.mono (by decide)), F_NoOrder_init.2.1, F_NoOrder_init.2.2⟩⟩ rfl T.g_NoOrder (mk_cons (me_v 4) mk_nil)) ma_nil)))) ma_nil)))
    (mss_cons (ms_expr (me_app (me_v 5) (ma_cons (me_tup (ma_cons me_str (ma_cons (me_mkG ⟨T.xg_NoAnswer.T, T.xg_NoAnswer.no, ⟨_, _, _, T.me_NoAnswer___init__.at_, beq_iff_eq.mp T.me_NoAnswer___init__.fn, F_NoAnswer_init.1, (hr.mono (by decide)), F_NoAnswer_init.2.1, F_NoAnswer_init.2.2⟩⟩ rfl T.g_NoAnswer (ma_cons (me_v 3) ma_nil)) (ma_cons (me_mkGK ⟨T.xg_NoAnswer.T, T.xg_NoAnswer.no, ⟨_, _, _, T.me_NoAnswer___init__.at_, beq_iff_eq.mp T.me_NoAnswer___init__.fn, F_NoAnswer_init.1, (hr.mono (by decide)), F_NoAnswer_init.2.1, F_NoAnswer_init.2.2⟩⟩ rfl T.g_NoAnswer (mk_cons (me_v 4) mk_nil)) ma_nil)))) ma_nil)))
    (mss_cons (ms_expr (me_app (me_v 5) (ma_cons (me_tup (ma_cons me_str (ma_cons (me_mkG ⟨T.xg_NoEvent.T, T.xg_NoEvent.no, ⟨_, _, _, T.me_NoEvent___init__.at_, beq_iff_eq.mp T.me_NoEvent___init__.fn, F_NoEvent_init.1, (hr.mono (by decide)), F_NoEvent_init.2.1, F_NoEvent_init.2.2⟩⟩ rfl T.g_NoEvent (ma_cons (me_v 3) ma_nil)) (ma_cons (me_mkGK ⟨T.xg_NoEvent.T, T.xg_NoEvent.no, ⟨_, _, _, T.me_NoEvent___init__.at_, beq_iff_eq.mp T.me_NoEvent___init__.fn, F_NoEvent_init.1, (hr.mono (by decide)), F_NoEvent_init.2.1, F_NoEvent_init.2.2⟩⟩ rfl T.g_NoEvent (mk_cons (me_v 4) mk_nil)) ma_nil)))) ma_nil)))
    (mss_cons (ms_expr (me_app (me_v 5) (ma_cons (me_tup (ma_cons me_str (ma_cons (me_mkG ⟨T.xg_NoPlace.T, T.xg_NoPlace.no, ⟨_, _, _, T.me_NoPlace___init__.at_, beq_iff_eq.mp T.me_NoPlace___init__.fn, F_NoPlace_init.1, (hr.mono (by decide)), F_NoPlace_init.2.1, F_NoPlace_init.2.2⟩⟩ rfl T.g_NoPlace (ma_cons (me_v 3) ma_nil)) (ma_cons (me_mkGK ⟨T.xg_NoPlace.T, T.xg_NoPlace.no, ⟨_, _, _, T.me_NoPlace___init__.at_, beq_iff_eq.mp T.me_NoPlace___init__.fn, F_NoPlace_init.1, (hr.mono (by decide)), F_NoPlace_init.2.1, F_NoPlace_init.2.2⟩⟩ rfl T.g_NoPlace (mk_cons (me_v 4) mk_nil)) ma_nil)))) ma_nil)))
    (mss_cons (ms_expr (me_app (me_v 5) (ma_cons (me_tup (ma_cons me_str (ma_cons (me_mkG ⟨T.xg_NoArgument.T, T.xg_NoArgument.no, ⟨_, _, _, T.me_NoArgument___init__.at_, beq_iff_eq.mp T.me_NoArgument___init__.fn, F_NoArgument_init.1, (hr.mono (by decide)), F_NoArgument_init.2.1, F_NoArgument_init.2.2⟩⟩ rfl T.g_NoArgument (ma_cons (me_v 3) ma_nil)) (ma_cons (me_mkGK ⟨T.xg_NoArgument.T, T.xg_NoArgument.no, ⟨_, _, _, T.me_NoArgument___init__.at_, beq_iff_eq.mp T.me_NoArgument___init__.fn, F_NoArgument_init.1, (hr.mono (by decide)), F_NoArgument_init.2.1, F_NoArgument_init.2.2⟩⟩ rfl T.g_NoArgument (mk_cons (me_v 4) mk_nil)) ma_nil)))) ma_nil)))
    (mss_cons (ms_expr (me_app (me_v 5) (ma_cons (me_tup (ma_cons me_str (ma_cons (me_mkG ⟨T.xg_NoKind.T, T.xg_NoKind.no, ⟨_, _, _, T.me_NoKind___init__.at_, beq_iff_eq.mp T.me_NoKind___init__.fn, F_NoKind_init.1, (hr.mono (by decide)), F_NoKind_init.2.1, F_NoKind_init.2.2⟩⟩ rfl T.g_NoKind (ma_cons (me_v 3) ma_nil)) (ma_cons (me_mkGK ⟨T.xg_NoKind.T, T.xg_NoKind.no, ⟨_, _, _, T.me_NoKind___init__.at_, beq_iff_eq.mp T.me_NoKind___init__.fn, F_NoKind_init.1, (hr.mono (by decide)), F_NoKind_init.2.1, F_NoKind_init.2.2⟩⟩ rfl T.g_NoKind (mk_cons (me_v 4) mk_nil)) ma_nil)))) ma_nil)))
    (mss_cons (ms_expr (me_app (me_v 5) (ma_cons (me_tup (ma_cons me_str (ma_cons (me_mkG ⟨T.xg_TooMany.T, T.xg_TooMany.no, ⟨_, _, _, T.me_TooMany___init__.at_, beq_iff_eq.mp T.me_TooMany___init__.fn, F_TooMany_init.1, (hr.mono (by decide)), F_TooMany_init.2.1, F_TooMany_init.2.2⟩⟩ rfl T.g_TooMany (ma_cons (me_v 3) ma_nil)) (ma_cons (me_mkGK ⟨T.xg_TooMany.T, T.xg_TooMany.no, ⟨_, _, _, T.me_TooMany___init__.at_, beq_iff_eq.mp T.me_TooMany___init__.fn, F_TooMany_init.1, (hr.mono (by decide)), F_TooMany_init.2.1, F_TooMany_init.2.2⟩⟩ rfl T.g_TooMany (mk_cons (me_v 4) mk_nil)) ma_nil)))) ma_nil)))
    (mss_cons (ms_expr (me_app (me_v 5) (ma_cons (me_tup (ma_cons me_str (ma_cons (me_mkG ⟨T.xg_Fault.T, T.xg_Fault.no, ⟨_, _, _, T.me_Fault___init__.at_, beq_iff_eq.mp T.me_Fault___init__.fn, F_Fault_init.1, (hr.mono (by decide)), F_Fault_init.2.1, F_Fault_init.2.2⟩⟩ rfl T.g_Fault (ma_cons (me_v 3) ma_nil)) (ma_cons (me_mkGK ⟨T.xg_Fault.T, T.xg_Fault.no, ⟨_, _, _, T.me_Fault___init__.at_, beq_iff_eq.mp T.me_Fault___init__.fn, F_Fault_init.1, (hr.mono (by decide)), F_Fault_init.2.1, F_Fault_init.2.2⟩⟩ rfl T.g_Fault (mk_cons (me_v 4) mk_nil)) ma_nil)))) ma_nil)))
    (mss_cons (ms_for 100 (passes_of rfl) rfl (mi_it (me_v 5)) (mg_tup rfl (mgs_cons (mg_n 6 sc_law.nd rfl (by first | exact Or.inl rfl | exact Or.inr rfl)) (mgs_cons (mg_n 7 sc_law.nd rfl (by first | exact Or.inl rfl | exact Or.inr rfl)) (mgs_cons (mg_n 8 sc_law.nd rfl (by first | exact Or.inl rfl | exact Or.inr rfl)) mgs_nil)))) (mss_cons (ms_if (mt_w (mw_or (mt_cmp (om_ne (hu64 hr)) (me_call F__law_kind E_ab__law_kind_1 (hr.mono (by decide)) hgd tk rfl T.g__law_kind T.k__law_kind (ma_cons (me_v 7) ma_nil)) (me_v 6) (nomark _)) (mw_or1 (mt_cmp (om_ne (hu64 hr)) (me_call F__law_kind E_ab__law_kind_1 (hr.mono (by decide)) hgd tk rfl T.g__law_kind T.k__law_kind (ma_cons (me_v 8) ma_nil)) (me_v 6) (nomark _))))) (mss_one (ms_ret me_bl)) mss_nil)
    (mss_one (ms_if (mt_w (mw_or (mt_cmp (om_ne (hu64 hr)) (me_cb (cm_repr hgd (hu128 hr)) (by rfl) T.f_repr (by decide +kernel) (ma_cons (me_call F__law_field E_ab__law_field_2 (hr.mono (by decide)) hgd tk rfl T.g__law_field T.k__law_field (ma_cons (me_v 7) (ma_cons (me_v 6) ma_nil))) ma_nil)) (me_cb (cm_repr hgd (hu128 hr)) (by rfl) T.f_repr (by decide +kernel) (ma_cons (me_v 3) ma_nil)) (nomark _)) (mw_or1 (mt_cmp (om_ne (hu64 hr)) (me_cb (cm_repr hgd (hu128 hr)) (by rfl) T.f_repr (by decide +kernel) (ma_cons (me_call F__law_field E_ab__law_field_2 (hr.mono (by decide)) hgd tk rfl T.g__law_field T.k__law_field (ma_cons (me_v 8) (ma_cons (me_v 6) ma_nil))) ma_nil)) (me_cb (cm_repr hgd (hu128 hr)) (by rfl) T.f_repr (by decide +kernel) (ma_cons (me_v 4) ma_nil)) (nomark _))))) (mss_one (ms_ret me_bl)) mss_nil))))
    (mss_cons (ms_set 9 sc_law.nd rfl (by first | exact Or.inl rfl | exact Or.inr rfl) (me_lst (ma_cons (me_tup (ma_cons me_str (ma_cons (me_mkG0 T.x0_NoCommand rfl T.g_NoCommand) ma_nil))) (ma_cons (me_tup (ma_cons me_str (ma_cons (me_mkG0 T.x0_Unlike rfl T.g_Unlike) ma_nil))) (ma_cons (me_tup (ma_cons me_str (ma_cons (me_mkG0 T.x0_Idle rfl T.g_Idle) ma_nil))) ma_nil)))))
    (mss_one (ms_if (mt_cmp (om_ne (hu64 hr)) (me_lcV (own := [(("_law_word" : Str), 6), (("_law_e" : Str), 10)]) (g := L2.gTup K 2 (gCons (gName 6) (gCons (gName 10) (gNil)))) rfl sc_law.nd (blkOk_by (N := [("_law_script" : Str), ("_law_turn" : Str), ("_law_bag_here" : Str), ("_law_one" : Str), ("_law_two" : Str), ("_law_pairs" : Str), ("_law_word" : Str), ("_law_first" : Str), ("_law_second" : Str), ("_law_bare" : Str), ("_law_e" : Str)]) (sc := defScope s_law) (by decide +kernel)) (own_tup (own_cons (own_n (by decide)) (own_cons (own_n (by decide)) own_nil))) (mi_it (me_v 9)) (fun _ _ _ _ _ => pg_tup rfl (pgs_cons (pg_name (i := 6) sc_law.nd rfl (Or.inl rfl)) (pgs_cons (pg_name (i := 10) sc_law.nd rfl (Or.inl rfl)) pgs_nil))) (fun _ _ _ _ _ => mts_nil) (fun _ _ _ _ _ => (me_call F__law_kind E_ab__law_kind_1 (hr.mono (by decide)) hgd takes0N rfl T.g__law_kind T.k__law_kind (ma_cons (me_v 10) ma_nil)))) (me_lcV (own := [(("_law_word" : Str), 6), (("_law_e" : Str), 10)]) (g := L2.gTup K 2 (gCons (gName 6) (gCons (gName 10) (gNil)))) rfl sc_law.nd (blkOk_by (N := [("_law_script" : Str), ("_law_turn" : Str), ("_law_bag_here" : Str), ("_law_one" : Str), ("_law_two" : Str), ("_law_pairs" : Str), ("_law_word" : Str), ("_law_first" : Str), ("_law_second" : Str), ("_law_bare" : Str), ("_law_e" : Str)]) (sc := defScope s_law) (by decide +kernel)) (own_tup (own_cons (own_n (by decide)) (own_cons (own_n (by decide)) own_nil))) (mi_it (me_v 9)) (fun _ _ _ _ _ => pg_tup rfl (pgs_cons (pg_name (i := 6) sc_law.nd rfl (Or.inl rfl)) (pgs_cons (pg_name (i := 10) sc_law.nd rfl (Or.inl rfl)) pgs_nil))) (fun _ _ _ _ _ => mts_nil) (fun _ _ _ _ _ => (me_v 6))) (nomark _)) (mss_one (ms_ret me_bl)) mss_nil)))))))))))))))))))
    (mss_one (ms_ret me_bl)))
end
end LW
end
section
set_option maxHeartbeats 0
namespace LW
open PySem PySem.Spec PyProof.Rows L2 Br
def d__law_kind : He5.DefA := ⟨fun K => (He.ga K "_law_kind"), "_law_kind", "_law_kind", defArgs s__law_kind, defBody s__law_kind, defScope s__law_kind, [], []⟩
def d__law_field : He5.DefA := ⟨fun K => (He.ga K "_law_field"), "_law_field", "_law_field", defArgs s__law_field, defBody s__law_field, defScope s__law_field, [], []⟩
def d_Fault_init : He5.DefA := ⟨fun K => (He.ma K (He.ga K "Fault") "__init__"), "__init__", "Fault.__init__", defArgs s_Fault_init, defBody s_Fault_init, defScope s_Fault_init, [], []⟩
def d_TooMany_init : He5.DefA := ⟨fun K => (He.ma K (He.ga K "TooMany") "__init__"), "__init__", "TooMany.__init__", defArgs s_TooMany_init, defBody s_TooMany_init, defScope s_TooMany_init, [], []⟩
def d_NoKind_init : He5.DefA := ⟨fun K => (He.ma K (He.ga K "NoKind") "__init__"), "__init__", "NoKind.__init__", defArgs s_NoKind_init, defBody s_NoKind_init, defScope s_NoKind_init, [], []⟩
def d_NoArgument_init : He5.DefA := ⟨fun K => (He.ma K (He.ga K "NoArgument") "__init__"), "__init__", "NoArgument.__init__", defArgs s_NoArgument_init, defBody s_NoArgument_init, defScope s_NoArgument_init, [], []⟩
def d_NoPlace_init : He5.DefA := ⟨fun K => (He.ma K (He.ga K "NoPlace") "__init__"), "__init__", "NoPlace.__init__", defArgs s_NoPlace_init, defBody s_NoPlace_init, defScope s_NoPlace_init, [], []⟩
def d_NoEvent_init : He5.DefA := ⟨fun K => (He.ma K (He.ga K "NoEvent") "__init__"), "__init__", "NoEvent.__init__", defArgs s_NoEvent_init, defBody s_NoEvent_init, defScope s_NoEvent_init, [], []⟩
def d_NoAnswer_init : He5.DefA := ⟨fun K => (He.ma K (He.ga K "NoAnswer") "__init__"), "__init__", "NoAnswer.__init__", defArgs s_NoAnswer_init, defBody s_NoAnswer_init, defScope s_NoAnswer_init, [], []⟩
def d_NoOrder_init : He5.DefA := ⟨fun K => (He.ma K (He.ga K "NoOrder") "__init__"), "__init__", "NoOrder.__init__", defArgs s_NoOrder_init, defBody s_NoOrder_init, defScope s_NoOrder_init, [], []⟩
def d_NoHistory_init : He5.DefA := ⟨fun K => (He.ma K (He.ga K "NoHistory") "__init__"), "__init__", "NoHistory.__init__", defArgs s_NoHistory_init, defBody s_NoHistory_init, defScope s_NoHistory_init, [], []⟩
def d_NoText_init : He5.DefA := ⟨fun K => (He.ma K (He.ga K "NoText") "__init__"), "__init__", "NoText.__init__", defArgs s_NoText_init, defBody s_NoText_init, defScope s_NoText_init, [], []⟩
def d_NoLayer_init : He5.DefA := ⟨fun K => (He.ma K (He.ga K "NoLayer") "__init__"), "__init__", "NoLayer.__init__", defArgs s_NoLayer_init, defBody s_NoLayer_init, defScope s_NoLayer_init, [], []⟩
def d_NoShape_init : He5.DefA := ⟨fun K => (He.ma K (He.ga K "NoShape") "__init__"), "__init__", "NoShape.__init__", defArgs s_NoShape_init, defBody s_NoShape_init, defScope s_NoShape_init, [], []⟩
def d__law_take : He5.DefA := ⟨fun K => (He.ga K "_law_take"), "_law_take", "_law_take", defArgs s__law_take, defBody s__law_take, defScope s__law_take, [], []⟩
def d__law_any : He5.DefA := ⟨fun K => (He.ga K "_law_any"), "_law_any", "_law_any", defArgs s__law_any, defBody s__law_any, defScope s__law_any, [], []⟩
def d__law_bag : He5.DefA := ⟨fun K => (He.ga K "_law_bag"), "_law_bag", "_law_bag", defArgs s__law_bag, defBody s__law_bag, defScope s__law_bag, [], []⟩
def d_law : He5.DefA := ⟨fun K => (He.ga K "law"), "law", "law", defArgs s_law, defBody s_law, defScope s_law, [], []⟩
def fn0 : List He5.DefA := [d__law_kind, d__law_field, d_Fault_init, d_TooMany_init, d_NoKind_init, d_NoArgument_init, d_NoPlace_init, d_NoEvent_init, d_NoAnswer_init, d_NoOrder_init, d_NoHistory_init, d_NoText_init, d_NoLayer_init, d_NoShape_init, d__law_take, d__law_any, d__law_bag, d_law]
def fn : List He5.DefA := fn0
def fa0 : List He.Fa := [(.free "len" : He.Fa), (.free "min" : He.Fa), (.free "max" : He.Fa), (.free "range" : He.Fa), (.free "RuntimeError" : He.Fa), (.free "isinstance" : He.Fa), (.free "OverflowError" : He.Fa), (.free "LookupError" : He.Fa), (.free "KeyError" : He.Fa), (.free "IndexError" : He.Fa), (.free "TypeError" : He.Fa), (.free "ValueError" : He.Fa), (.glo "Fault" : He.Fa), (.glo "Idle" : He.Fa), (.glo "TooMany" : He.Fa), (.glo "Unlike" : He.Fa), (.glo "NoKind" : He.Fa), (.glo "NoArgument" : He.Fa), (.glo "NoPlace" : He.Fa), (.glo "NoEvent" : He.Fa), (.glo "NoAnswer" : He.Fa), (.glo "NoCommand" : He.Fa), (.glo "NoOrder" : He.Fa), (.glo "NoHistory" : He.Fa), (.glo "NoText" : He.Fa), (.glo "NoLayer" : He.Fa), (.glo "NoShape" : He.Fa), (.glo "_law_kind" : He.Fa), (.keep "_law_kind" : He.Fa), (.glo "_law_field" : He.Fa)]
def fa1 : List He.Fa := [(.keep "_law_field" : He.Fa), (.free "repr" : He.Fa), (.meth "Fault" "__init__" : He.Fa), (.meth "TooMany" "__init__" : He.Fa), (.meth "NoKind" "__init__" : He.Fa), (.meth "NoArgument" "__init__" : He.Fa), (.meth "NoPlace" "__init__" : He.Fa), (.meth "NoEvent" "__init__" : He.Fa), (.meth "NoAnswer" "__init__" : He.Fa), (.meth "NoOrder" "__init__" : He.Fa), (.meth "NoHistory" "__init__" : He.Fa), (.meth "NoText" "__init__" : He.Fa), (.meth "NoLayer" "__init__" : He.Fa), (.meth "NoShape" "__init__" : He.Fa), (.glo "_law_take" : He.Fa), (.keep "_law_take" : He.Fa), (.glo "_law_any" : He.Fa), (.keep "_law_any" : He.Fa), (.free "abs" : He.Fa), (.glo "_law_bag" : He.Fa), (.keep "_law_bag" : He.Fa), (.glo "law" : He.Fa)]
def fa : List He.Fa := fa0 ++ fa1
def nms0 : List PySem.Str := [("__name__" : PySem.Str), ("NoShape" : PySem.Str), ("NoLayer" : PySem.Str), ("NoText" : PySem.Str), ("NoHistory" : PySem.Str), ("NoOrder" : PySem.Str), ("NoCommand" : PySem.Str), ("NoAnswer" : PySem.Str), ("NoEvent" : PySem.Str), ("NoPlace" : PySem.Str), ("NoArgument" : PySem.Str), ("NoKind" : PySem.Str), ("Unlike" : PySem.Str), ("TooMany" : PySem.Str), ("Idle" : PySem.Str), ("Fault" : PySem.Str), ("_law_bag" : PySem.Str), ("_law_take" : PySem.Str), ("_law_any" : PySem.Str), ("_law_kind" : PySem.Str), ("_law_field" : PySem.Str)]
def nms : List PySem.Str := nms0
def exs : List (PySem.W.Frag → Bool) := [fun K => BrH.NoKLB K, fun K => BrH.xtabB K xtab, fun K => BrH.exc0B K (He.ga K "Idle"), fun K => BrH.exc0B K (He.ga K "Unlike"), fun K => BrH.exc0B K (He.ga K "NoCommand"), fun K => BrH.fldXB K [("TooMany" : Str)] "limit", fun K => BrH.fldXB K [("NoKind" : Str), ("Fault" : Str)] "kind", fun K => BrH.fldXB K [("NoArgument" : Str)] "argument", fun K => BrH.fldXB K [("NoEvent" : Str)] "event", fun K => BrH.fldXB K [("NoAnswer" : Str)] "value", fun K => BrH.fldXB K [("NoOrder" : Str)] "order", fun K => BrH.fldXB K [("NoHistory" : Str)] "at", fun K => BrH.fldXB K [("NoText" : Str), ("NoPlace" : Str)] "place", fun K => BrH.fldXB K [("NoLayer" : Str)] "layer", fun K => BrH.fldXB K [("NoShape" : Str)] "number", fun K => BrH.excGB K (He.ga K "Fault") "kind", fun K => BrH.excGB K (He.ga K "TooMany") "limit", fun K => BrH.excGB K (He.ga K "NoKind") "kind", fun K => BrH.excGB K (He.ga K "NoArgument") "argument", fun K => BrH.excGB K (He.ga K "NoPlace") "place", fun K => BrH.excGB K (He.ga K "NoEvent") "event", fun K => BrH.excGB K (He.ga K "NoAnswer") "value", fun K => BrH.excGB K (He.ga K "NoOrder") "order", fun K => BrH.excGB K (He.ga K "NoHistory") "at", fun K => BrH.excGB K (He.ga K "NoText") "place", fun K => BrH.excGB K (He.ga K "NoLayer") "layer", fun K => BrH.excGB K (He.ga K "NoShape") "number"]
def ts : List He.Tab := []
def ex (K : PySem.W.Frag) : Bool := exs.all fun b => b K
abbrev RR : PySem.W.OpenRow := PySem.W.OpenLaw.row PySem.Challenge.rw_callayers_k24_errors_made
abbrev qv : Program := PySem.W.view RR.prog [22]
abbrev hk : PySem.W.Hook := BrH.hookY 5 fa fn ts ex
def ob (s : PySem.W.SharedT) := BrH.obsY 5 fa fn ts ex (HandSHeadRun.getT s)
theorem ob_eq (s : PySem.W.SharedT) : ob s = hk.obs s.abs := BrH.obsY_eq (HandSHeadRun.getT_eq s)
end LW
end
section
set_option maxHeartbeats 0
namespace LW
open PySem PySem.W PySem.Calls PyProof.Rows HandSHeadRun
theorem run_af (w : World) (os : OsState) : (HandSHeadRun.endF (HandSHeadRun.stepQ (HandSHeadRun.denQ HandSHeadRun.tabQ) RR.prog (w.withFollow "special-get-raises" false)) 30000 RR.prog (w.withFollow "special-get-raises" false) os).map (fun s => looksF RR.prog (boot_heap (w.withFollow "special-get-raises" false).params) s.abs) = some (true) := by kernel_rfl
end LW
end
section
set_option maxHeartbeats 0
namespace LW
open PySem PySem.W PySem.Calls PyProof.Rows HandSHeadRun
theorem run_at (w : World) (os : OsState) : (HandSHeadRun.endF (HandSHeadRun.stepQ (HandSHeadRun.denQ HandSHeadRun.tabQ) RR.prog (w.withFollow "special-get-raises" true)) 30000 RR.prog (w.withFollow "special-get-raises" true) os).map (fun s => looksF RR.prog (boot_heap (w.withFollow "special-get-raises" true).params) s.abs) = some (true) := by kernel_rfl
end LW
end
section
set_option maxHeartbeats 0
namespace LW
open PySem PySem.W PySem.Calls PyProof.Rows HandSHeadRun
theorem run_a (w : World) (os : OsState) : (HandSHeadRun.endF (HandSHeadRun.stepQ (HandSHeadRun.denQ HandSHeadRun.tabQ) RR.prog w) 30000 RR.prog w os).map (fun s => looksF RR.prog (boot_heap w.params) s.abs) = some (true) :=
  PySem.W.byRow2 "special-get-raises" (P := fun w => ∀ os : OsState, (HandSHeadRun.endF (HandSHeadRun.stepQ (HandSHeadRun.denQ HandSHeadRun.tabQ) RR.prog w) 30000 RR.prog w os).map (fun s => looksF RR.prog (boot_heap w.params) s.abs) = some (true)) (fun w os => run_af w os) (fun w os => run_at w os) w os
end LW
end
section
set_option maxHeartbeats 0
namespace LW
open PySem PySem.W PySem.Calls PyProof.Rows HandSHeadRun
theorem run_bf (w : World) (os : OsState) : (HandSHeadRun.endF (HandSHeadRun.stepQ (HandSHeadRun.denQ HandSHeadRun.tabQ) RR.prog (w.withFollow "special-get-raises" false)) 30000 RR.prog (w.withFollow "special-get-raises" false) os).map (fun s => seenQ qv nms (importedModules RR.prog.main.body) (fun s => xlAt qv [] s && recOk RR.toRowW.records s) s.abs) = some (openGood qv nms) := by kernel_rfl
end LW
end
section
set_option maxHeartbeats 0
namespace LW
open PySem PySem.W PySem.Calls PyProof.Rows HandSHeadRun
theorem run_bt (w : World) (os : OsState) : (HandSHeadRun.endF (HandSHeadRun.stepQ (HandSHeadRun.denQ HandSHeadRun.tabQ) RR.prog (w.withFollow "special-get-raises" true)) 30000 RR.prog (w.withFollow "special-get-raises" true) os).map (fun s => seenQ qv nms (importedModules RR.prog.main.body) (fun s => xlAt qv [] s && recOk RR.toRowW.records s) s.abs) = some (openGood qv nms) := by kernel_rfl
end LW
end
section
set_option maxHeartbeats 0
namespace LW
open PySem PySem.W PySem.Calls PyProof.Rows HandSHeadRun
theorem run_b (w : World) (os : OsState) : (HandSHeadRun.endF (HandSHeadRun.stepQ (HandSHeadRun.denQ HandSHeadRun.tabQ) RR.prog w) 30000 RR.prog w os).map (fun s => seenQ qv nms (importedModules RR.prog.main.body) (fun s => xlAt qv [] s && recOk RR.toRowW.records s) s.abs) = some (openGood qv nms) :=
  PySem.W.byRow2 "special-get-raises" (P := fun w => ∀ os : OsState, (HandSHeadRun.endF (HandSHeadRun.stepQ (HandSHeadRun.denQ HandSHeadRun.tabQ) RR.prog w) 30000 RR.prog w os).map (fun s => seenQ qv nms (importedModules RR.prog.main.body) (fun s => xlAt qv [] s && recOk RR.toRowW.records s) s.abs) = some (openGood qv nms)) (fun w os => run_bf w os) (fun w os => run_bt w os) w os
end LW
end
section
set_option maxHeartbeats 0
namespace LW
open PySem PySem.W PySem.Calls PyProof.Rows HandSHeadRun
theorem run_cf (w : World) (os : OsState) : (HandSHeadRun.endF (HandSHeadRun.stepQ (HandSHeadRun.denQ HandSHeadRun.tabQ) RR.prog (w.withFollow "special-get-raises" false)) 30000 RR.prog (w.withFollow "special-get-raises" false) os).map (fun s => ob s) = some (hk.val (w.withFollow "special-get-raises" false)) := by kernel_rfl
end LW
end
section
set_option maxHeartbeats 0
namespace LW
open PySem PySem.W PySem.Calls PyProof.Rows HandSHeadRun
theorem run_ct (w : World) (os : OsState) : (HandSHeadRun.endF (HandSHeadRun.stepQ (HandSHeadRun.denQ HandSHeadRun.tabQ) RR.prog (w.withFollow "special-get-raises" true)) 30000 RR.prog (w.withFollow "special-get-raises" true) os).map (fun s => ob s) = some (hk.val (w.withFollow "special-get-raises" true)) := by kernel_rfl
end LW
end
section
set_option maxHeartbeats 0
namespace LW
open PySem PySem.W PySem.Calls PyProof.Rows HandSHeadRun
theorem run_c (w : World) (os : OsState) : (HandSHeadRun.endF (HandSHeadRun.stepQ (HandSHeadRun.denQ HandSHeadRun.tabQ) RR.prog w) 30000 RR.prog w os).map (fun s => ob s) = some (hk.val w) :=
  PySem.W.byRow2 "special-get-raises" (P := fun w => ∀ os : OsState, (HandSHeadRun.endF (HandSHeadRun.stepQ (HandSHeadRun.denQ HandSHeadRun.tabQ) RR.prog w) 30000 RR.prog w os).map (fun s => ob s) = some (hk.val w)) (fun w os => run_cf w os) (fun w os => run_ct w os) w os
end LW
end
section
set_option maxHeartbeats 0
namespace LW
open PySem PySem.Spec PyProof.Rows L2 Br
theorem run_ (w : World) : HandSHeadRun.RunEq RR qv hk ob 30000 nms w := fun os => BrH.map3 (run_a w os) (run_b w os) (run_c w os)
end LW
end
section
set_option maxHeartbeats 0
namespace LW
open PySem PySem.Spec PyProof.Rows L2 Br
theorem tx_of {w : World} {K : PySem.W.Frag} {h : Heap} {mg : Str → Option Value} (X : K.In h) (G : h.Ns mainGlobals mg) (c : BrH.SaysY fa fn ts ex w K) : Tx w K mg where
    nokl := BrH.nokl_ok (BrH.ex_at c.more 0 rfl)
    f_len := He.free_ok X G (c.d.fact 0 (f := .free "len") rfl)
    f_min := He.free_ok X G (c.d.fact 1 (f := .free "min") rfl)
    f_max := He.free_ok X G (c.d.fact 2 (f := .free "max") rfl)
    f_range := He.free_ok X G (c.d.fact 3 (f := .free "range") rfl)
    xtab := BrH.xtabB_ok (BrH.ex_at c.more 1 rfl)
    f_RuntimeError := He.free_ok X G (c.d.fact 4 (f := .free "RuntimeError") rfl)
    f_isinstance := He.free_ok X G (c.d.fact 5 (f := .free "isinstance") rfl)
    f_OverflowError := He.free_ok X G (c.d.fact 6 (f := .free "OverflowError") rfl)
    f_LookupError := He.free_ok X G (c.d.fact 7 (f := .free "LookupError") rfl)
    f_KeyError := He.free_ok X G (c.d.fact 8 (f := .free "KeyError") rfl)
    f_IndexError := He.free_ok X G (c.d.fact 9 (f := .free "IndexError") rfl)
    f_TypeError := He.free_ok X G (c.d.fact 10 (f := .free "TypeError") rfl)
    f_ValueError := He.free_ok X G (c.d.fact 11 (f := .free "ValueError") rfl)
    g_Fault := He.glo_ok X G (c.d.fact 12 (f := .glo "Fault") rfl)
    g_Idle := He.glo_ok X G (c.d.fact 13 (f := .glo "Idle") rfl)
    g_TooMany := He.glo_ok X G (c.d.fact 14 (f := .glo "TooMany") rfl)
    g_Unlike := He.glo_ok X G (c.d.fact 15 (f := .glo "Unlike") rfl)
    g_NoKind := He.glo_ok X G (c.d.fact 16 (f := .glo "NoKind") rfl)
    g_NoArgument := He.glo_ok X G (c.d.fact 17 (f := .glo "NoArgument") rfl)
    g_NoPlace := He.glo_ok X G (c.d.fact 18 (f := .glo "NoPlace") rfl)
    g_NoEvent := He.glo_ok X G (c.d.fact 19 (f := .glo "NoEvent") rfl)
    g_NoAnswer := He.glo_ok X G (c.d.fact 20 (f := .glo "NoAnswer") rfl)
    g_NoCommand := He.glo_ok X G (c.d.fact 21 (f := .glo "NoCommand") rfl)
    g_NoOrder := He.glo_ok X G (c.d.fact 22 (f := .glo "NoOrder") rfl)
    g_NoHistory := He.glo_ok X G (c.d.fact 23 (f := .glo "NoHistory") rfl)
    g_NoText := He.glo_ok X G (c.d.fact 24 (f := .glo "NoText") rfl)
    g_NoLayer := He.glo_ok X G (c.d.fact 25 (f := .glo "NoLayer") rfl)
    g_NoShape := He.glo_ok X G (c.d.fact 26 (f := .glo "NoShape") rfl)
    g__law_kind := He.glo_ok X G (c.d.fact 27 (f := .glo "_law_kind") rfl)
    k__law_kind := He.keep_ok (c.d.fact 28 (f := .keep "_law_kind") rfl)
    x0_Idle := BrH.exc0B_ok (BrH.ex_at c.more 2 rfl)
    x0_Unlike := BrH.exc0B_ok (BrH.ex_at c.more 3 rfl)
    x0_NoCommand := BrH.exc0B_ok (BrH.ex_at c.more 4 rfl)
    fx_limit := BrH.fldXB_ok (BrH.ex_at c.more 5 rfl)
    fx_kind := BrH.fldXB_ok (BrH.ex_at c.more 6 rfl)
    fx_argument := BrH.fldXB_ok (BrH.ex_at c.more 7 rfl)
    fx_event := BrH.fldXB_ok (BrH.ex_at c.more 8 rfl)
    fx_value := BrH.fldXB_ok (BrH.ex_at c.more 9 rfl)
    fx_order := BrH.fldXB_ok (BrH.ex_at c.more 10 rfl)
    fx_at := BrH.fldXB_ok (BrH.ex_at c.more 11 rfl)
    fx_place := BrH.fldXB_ok (BrH.ex_at c.more 12 rfl)
    fx_layer := BrH.fldXB_ok (BrH.ex_at c.more 13 rfl)
    fx_number := BrH.fldXB_ok (BrH.ex_at c.more 14 rfl)
    g__law_field := He.glo_ok X G (c.d.fact 29 (f := .glo "_law_field") rfl)
    k__law_field := He.keep_ok (c.d.fact 30 (f := .keep "_law_field") rfl)
    f_repr := He.free_ok X G (c.d.fact 31 (f := .free "repr") rfl)
    me_Fault___init__ := He.meth_ok (c.d.fact 32 (f := .meth "Fault" "__init__") rfl)
    xg_Fault := BrH.excGB_ok (BrH.ex_at c.more 15 rfl)
    me_TooMany___init__ := He.meth_ok (c.d.fact 33 (f := .meth "TooMany" "__init__") rfl)
    xg_TooMany := BrH.excGB_ok (BrH.ex_at c.more 16 rfl)
    me_NoKind___init__ := He.meth_ok (c.d.fact 34 (f := .meth "NoKind" "__init__") rfl)
    xg_NoKind := BrH.excGB_ok (BrH.ex_at c.more 17 rfl)
    me_NoArgument___init__ := He.meth_ok (c.d.fact 35 (f := .meth "NoArgument" "__init__") rfl)
    xg_NoArgument := BrH.excGB_ok (BrH.ex_at c.more 18 rfl)
    me_NoPlace___init__ := He.meth_ok (c.d.fact 36 (f := .meth "NoPlace" "__init__") rfl)
    xg_NoPlace := BrH.excGB_ok (BrH.ex_at c.more 19 rfl)
    me_NoEvent___init__ := He.meth_ok (c.d.fact 37 (f := .meth "NoEvent" "__init__") rfl)
    xg_NoEvent := BrH.excGB_ok (BrH.ex_at c.more 20 rfl)
    me_NoAnswer___init__ := He.meth_ok (c.d.fact 38 (f := .meth "NoAnswer" "__init__") rfl)
    xg_NoAnswer := BrH.excGB_ok (BrH.ex_at c.more 21 rfl)
    me_NoOrder___init__ := He.meth_ok (c.d.fact 39 (f := .meth "NoOrder" "__init__") rfl)
    xg_NoOrder := BrH.excGB_ok (BrH.ex_at c.more 22 rfl)
    me_NoHistory___init__ := He.meth_ok (c.d.fact 40 (f := .meth "NoHistory" "__init__") rfl)
    xg_NoHistory := BrH.excGB_ok (BrH.ex_at c.more 23 rfl)
    me_NoText___init__ := He.meth_ok (c.d.fact 41 (f := .meth "NoText" "__init__") rfl)
    xg_NoText := BrH.excGB_ok (BrH.ex_at c.more 24 rfl)
    me_NoLayer___init__ := He.meth_ok (c.d.fact 42 (f := .meth "NoLayer" "__init__") rfl)
    xg_NoLayer := BrH.excGB_ok (BrH.ex_at c.more 25 rfl)
    me_NoShape___init__ := He.meth_ok (c.d.fact 43 (f := .meth "NoShape" "__init__") rfl)
    xg_NoShape := BrH.excGB_ok (BrH.ex_at c.more 26 rfl)
    g__law_take := He.glo_ok X G (c.d.fact 44 (f := .glo "_law_take") rfl)
    k__law_take := He.keep_ok (c.d.fact 45 (f := .keep "_law_take") rfl)
    g__law_any := He.glo_ok X G (c.d.fact 46 (f := .glo "_law_any") rfl)
    k__law_any := He.keep_ok (c.d.fact 47 (f := .keep "_law_any") rfl)
    f_abs := He.free_ok X G (c.d.fact 48 (f := .free "abs") rfl)
    g__law_bag := He.glo_ok X G (c.d.fact 49 (f := .glo "_law_bag") rfl)
    k__law_bag := He.keep_ok (c.d.fact 50 (f := .keep "_law_bag") rfl)
theorem facts {w : World} {K : PySem.W.Frag} {h : Heap} {mg : Str → Option Value} {f : Addr} (X : K.In h) (G : h.Ns mainGlobals mg) (hfa : mg ("law" : Str) = some (.ref f)) (c : BrH.SaysY fa fn ts ex w K) :
    ∃ fd : FuncData, ∀ base : Heap, K.In base → base.Ns mainGlobals mg → FnM PySem.Challenge.rw_callayers_k24_errors_made.prog w K mg base 4 f fd [("_law_script" : Str)] m_law ∧ AB PySem.Challenge.rw_callayers_k24_errors_made.prog w K mg base fd [("_law_script" : Str)] 1 [] (fun ds _ => ds) := by
  have e := hfa.symm.trans (He.glo_ok X G (c.d.fact 51 (f := .glo "law") rfl))
  cases e
  have T : Tx w K mg := tx_of X G c
  obtain ⟨fd__law_kind, D__law_kind⟩ := c.d.def_ 0 (d := d__law_kind) rfl
  obtain ⟨fd__law_field, D__law_field⟩ := c.d.def_ 1 (d := d__law_field) rfl
  obtain ⟨fd_Fault_init, D_Fault_init⟩ := c.d.def_ 2 (d := d_Fault_init) rfl
  obtain ⟨fd_TooMany_init, D_TooMany_init⟩ := c.d.def_ 3 (d := d_TooMany_init) rfl
  obtain ⟨fd_NoKind_init, D_NoKind_init⟩ := c.d.def_ 4 (d := d_NoKind_init) rfl
  obtain ⟨fd_NoArgument_init, D_NoArgument_init⟩ := c.d.def_ 5 (d := d_NoArgument_init) rfl
  obtain ⟨fd_NoPlace_init, D_NoPlace_init⟩ := c.d.def_ 6 (d := d_NoPlace_init) rfl
  obtain ⟨fd_NoEvent_init, D_NoEvent_init⟩ := c.d.def_ 7 (d := d_NoEvent_init) rfl
  obtain ⟨fd_NoAnswer_init, D_NoAnswer_init⟩ := c.d.def_ 8 (d := d_NoAnswer_init) rfl
  obtain ⟨fd_NoOrder_init, D_NoOrder_init⟩ := c.d.def_ 9 (d := d_NoOrder_init) rfl
  obtain ⟨fd_NoHistory_init, D_NoHistory_init⟩ := c.d.def_ 10 (d := d_NoHistory_init) rfl
  obtain ⟨fd_NoText_init, D_NoText_init⟩ := c.d.def_ 11 (d := d_NoText_init) rfl
  obtain ⟨fd_NoLayer_init, D_NoLayer_init⟩ := c.d.def_ 12 (d := d_NoLayer_init) rfl
  obtain ⟨fd_NoShape_init, D_NoShape_init⟩ := c.d.def_ 13 (d := d_NoShape_init) rfl
  obtain ⟨fd__law_take, D__law_take⟩ := c.d.def_ 14 (d := d__law_take) rfl
  obtain ⟨fd__law_any, D__law_any⟩ := c.d.def_ 15 (d := d__law_any) rfl
  obtain ⟨fd__law_bag, D__law_bag⟩ := c.d.def_ 16 (d := d__law_bag) rfl
  obtain ⟨fd_law, D_law⟩ := c.d.def_ 17 (d := d_law) rfl
  refine ⟨fd_law, fun base _ _ => ?_⟩
  have K__law_kind := ok__law_kind (P := PySem.Challenge.rw_callayers_k24_errors_made.prog) (w := w) (base := base) T D__law_kind
  have K__law_field := ok__law_field (P := PySem.Challenge.rw_callayers_k24_errors_made.prog) (w := w) (base := base) T D__law_field
  have K_Fault_init := ok_Fault_init (P := PySem.Challenge.rw_callayers_k24_errors_made.prog) (w := w) (base := base) T D_Fault_init
  have K_TooMany_init := ok_TooMany_init (P := PySem.Challenge.rw_callayers_k24_errors_made.prog) (w := w) (base := base) T D_TooMany_init
  have K_NoKind_init := ok_NoKind_init (P := PySem.Challenge.rw_callayers_k24_errors_made.prog) (w := w) (base := base) T D_NoKind_init
  have K_NoArgument_init := ok_NoArgument_init (P := PySem.Challenge.rw_callayers_k24_errors_made.prog) (w := w) (base := base) T D_NoArgument_init
  have K_NoPlace_init := ok_NoPlace_init (P := PySem.Challenge.rw_callayers_k24_errors_made.prog) (w := w) (base := base) T D_NoPlace_init
  have K_NoEvent_init := ok_NoEvent_init (P := PySem.Challenge.rw_callayers_k24_errors_made.prog) (w := w) (base := base) T D_NoEvent_init
  have K_NoAnswer_init := ok_NoAnswer_init (P := PySem.Challenge.rw_callayers_k24_errors_made.prog) (w := w) (base := base) T D_NoAnswer_init
  have K_NoOrder_init := ok_NoOrder_init (P := PySem.Challenge.rw_callayers_k24_errors_made.prog) (w := w) (base := base) T D_NoOrder_init
  have K_NoHistory_init := ok_NoHistory_init (P := PySem.Challenge.rw_callayers_k24_errors_made.prog) (w := w) (base := base) T D_NoHistory_init
  have K_NoText_init := ok_NoText_init (P := PySem.Challenge.rw_callayers_k24_errors_made.prog) (w := w) (base := base) T D_NoText_init
  have K_NoLayer_init := ok_NoLayer_init (P := PySem.Challenge.rw_callayers_k24_errors_made.prog) (w := w) (base := base) T D_NoLayer_init
  have K_NoShape_init := ok_NoShape_init (P := PySem.Challenge.rw_callayers_k24_errors_made.prog) (w := w) (base := base) T D_NoShape_init
  have K__law_take := ok__law_take (P := PySem.Challenge.rw_callayers_k24_errors_made.prog) (w := w) (base := base) T D__law_take
  have K__law_any := ok__law_any (P := PySem.Challenge.rw_callayers_k24_errors_made.prog) (w := w) (base := base) T D__law_any K__law_take (ab__law_take_2 D__law_take)
  have K__law_bag := ok__law_bag (P := PySem.Challenge.rw_callayers_k24_errors_made.prog) (w := w) (base := base) T D__law_bag
  have K_law := ok_law (P := PySem.Challenge.rw_callayers_k24_errors_made.prog) (w := w) (base := base) T D_law K__law_kind (ab__law_kind_1 D__law_kind) K__law_field (ab__law_field_2 D__law_field) K_Fault_init K_TooMany_init K_NoKind_init K_NoArgument_init K_NoPlace_init K_NoEvent_init K_NoAnswer_init K_NoOrder_init K_NoHistory_init K_NoText_init K_NoLayer_init K_NoShape_init K__law_any (ab__law_any_1 D__law_any) K__law_bag (ab__law_bag_2 D__law_bag)
  exact ⟨K_law, ab_law_1 D_law⟩
end LW
end
section
namespace Br
open PySem PySem.Spec L2
/-! ### what a result answers -/
def wpE {α : Type} (r : R α) (Q : α → Mem → Prop) (X : Exn → Mem → Prop) : Prop := match r with
  | .ok a M => Q a M
  | .ex e M => X e M
  | .no => False
def wpS (s : SR) (n : En → Mem → Prop) (r : D → Mem → Prop) (b c : En → Mem → Prop) (x : Exn → En → Mem → Prop) : Prop := match s with
  | .go .nx ρ M => n ρ M
  | .go (.ret d) _ M => r d M
  | .go .bk ρ M => b ρ M
  | .go .ct ρ M => c ρ M
  | .ex e ρ M => x e ρ M
  | .no => False
def wpO {α : Type} (o : Option α) (P : α → Prop) : Prop := match o with
  | some a => P a
  | none => False
def wpV (o : Option (Option D)) (P : D → Prop) : Prop := match o with
  | some (some d) => P d
  | _ => False
def wpB (d : D) (P : Bool → Prop) : Prop := match d with
  | .bl b => P b
  | _ => False
def wpI (d : D) (P : Int → Prop) : Prop := match d with
  | .int b => P b
  | _ => False
def wpT (d : D) (P : List D → Prop) : Prop := match d with
  | .tup b => P b
  | _ => False
def wpR (d : D) (P : Nat → Prop) : Prop := match d with
  | .ref b => P b
  | _ => False
def wpG (d : D) (P : Str → Prop) : Prop := match d with
  | .gl b => P b
  | _ => False
def wpStr (d : D) (P : Str → Prop) : Prop := match d with
  | .str b => P b
  | _ => False
/-- an attribute of that name is not among the fields -/
def noAt (m : Str) (fs : List (Str × D)) : Prop := fs.lookup m = none
@[simp] theorem noAt_nil {m : Str} : noAt m [] = True := by simp [noAt]
@[simp] theorem noAt_c {m k : Str} {d : D} {fs : List (Str × D)} (h : (m == k) = false) : noAt m ((k, d) :: fs) = noAt m fs := by
  unfold noAt; rw [List.lookup_cons, h]
@[simp] theorem wpO_s {α : Type} {a : α} {P : α → Prop} : wpO (some a) P = P a := rfl
@[simp] theorem wpV_s {a : D} {P : D → Prop} : wpV (some (some a)) P = P a := rfl
@[simp] theorem wpB_s {a : Bool} {P : Bool → Prop} : wpB (.bl a) P = P a := rfl
@[simp] theorem wpI_s {a : Int} {P : Int → Prop} : wpI (.int a) P = P a := rfl
@[simp] theorem wpT_s {a : List D} {P : List D → Prop} : wpT (.tup a) P = P a := rfl
@[simp] theorem wpR_s {a : Nat} {P : Nat → Prop} : wpR (.ref a) P = P a := rfl
@[simp] theorem wpG_s {a : Str} {P : Str → Prop} : wpG (.gl a) P = P a := rfl
@[simp] theorem wpStr_s {a : Str} {P : Str → Prop} : wpStr (.str a) P = P a := rfl
section
variable {α β : Type} {Q : D → Mem → Prop} {QL : List D → Mem → Prop} {QB : Bool → Mem → Prop} {QW : Wk → Mem → Prop} {X : Exn → Mem → Prop} {a b : FE} {g g' : FA} {t u : FT} {ρ : En} {M : Mem} {i : Nat} {d : D}
@[simp] theorem wpE_ok {x : α} {Q : α → Mem → Prop} : wpE (.ok x M) Q X = Q x M := rfl
@[simp] theorem wpE_ex {e : Exn} {Q : α → Mem → Prop} : wpE (.ex e M) Q X = X e M := rfl
@[simp] theorem wpE_no {Q : α → Mem → Prop} : wpE (.no) Q X = False := rfl
theorem wpE_bind {r : R α} {f : α → Mem → R β} {Q : β → Mem → Prop} : wpE (r.bind f) Q X = wpE r (fun a M => wpE (f a M) Q X) X := by cases r <;> rfl
theorem wpE_mono {r : R α} {Q Q' : α → Mem → Prop} {X X' : Exn → Mem → Prop} (h : wpE r Q X) (hq : ∀ a M, Q a M → Q' a M) (hx : ∀ e M, X e M → X' e M) : wpE r Q' X' := by
  cases r with
  | ok a M => exact hq _ _ h
  | ex e M => exact hx _ _ h
  | no => exact h
theorem wpE_eq {r : R α} {x : α} (h : wpE r (fun a M' => a = x ∧ M' = M) (fun _ _ => False)) : r = .ok x M := by
  cases r with
  | ok a M => obtain ⟨rfl, rfl⟩ := h; rfl
  | ex e M => exact h.elim
  | no => exact h.elim
@[simp] theorem wpE_ex' {r : R α} {Q : α → Mem → Prop} (h : wpE r Q (fun _ _ => False)) : ∃ x M', r = .ok x M' ∧ Q x M' := by
  cases r with
  | ok a M => exact ⟨a, M, rfl, h⟩
  | ex e M => exact h.elim
  | no => exact h.elim
theorem wpE_of {r : R α} {Q : α → Mem → Prop} (h : ∃ x M', r = .ok x M' ∧ Q x M') : wpE r Q X := by
  obtain ⟨x, M', rfl, h⟩ := h
  exact h
@[simp] theorem wpE_noEx {r : R α} {Q : α → Mem → Prop} : wpE (noEx r) Q X = wpE r Q (fun _ _ => False) := by cases r <;> rfl
@[simp] theorem eV_w : wpE (eV i ρ M) Q X = wpV ρ[i]? (fun d => Q d M) := by
  unfold eV
  cases h : ρ[i]? with
  | none => rfl
  | some o => cases o <;> rfl
@[simp] theorem eC_w : wpE (eC d ρ M) Q X = Q d M := rfl
@[simp] theorem e1_w {h : F1} : wpE (e1 h a ρ M) Q X = wpE (a ρ M) (fun x M => wpE (h x M) Q X) X := wpE_bind
@[simp] theorem e2_w {h : F2} : wpE (e2 h a b ρ M) Q X = wpE (a ρ M) (fun x M => wpE (b ρ M) (fun y M => wpE (h x y M) Q X) X) X := by
  unfold e2; rw [wpE_bind]; simp only [wpE_bind]
@[simp] theorem eL_w {h : FL} : wpE (eL h g ρ M) Q X = wpE (g ρ M) (fun x M => wpE (h x M) Q X) X := wpE_bind
@[simp] theorem aN_w : wpE (aN ρ M) QL X = QL [] M := rfl
@[simp] theorem aC_w : wpE (aC a g ρ M) QL X = wpE (a ρ M) (fun x M => wpE (g ρ M) (fun xs M => QL (x :: xs) M) X) X := by
  unfold aC; rw [wpE_bind]; simp only [wpE_bind, wpE_ok]
@[simp] theorem aS_w : wpE (aS a g ρ M) QL X = wpE (a ρ M) (fun x M => wpO (seqA M x) (fun xs => wpE (g ρ M) (fun ys M => QL (xs ++ ys) M) X)) X := by
  unfold aS; rw [wpE_bind]
  congr 1; funext x M
  cases seqA M x with
  | none => rfl
  | some xs => dsimp only; rw [wpE_bind]; rfl
@[simp] theorem tC_w : wpE (Br.tC a ρ M) QB X = wpE (a ρ M) (fun x M => wpB x (fun b => QB b M)) X := by
  unfold Br.tC; rw [wpE_bind]
  congr 1; funext x M
  cases x <;> rfl
@[simp] theorem tT_w : wpE (tT a ρ M) QB X = wpE (a ρ M) (fun x M => wpO (truD M x) (fun b => QB b M)) X := by
  unfold tT; rw [wpE_bind]
  congr 1; funext x M
  cases truD M x <;> rfl
@[simp] theorem tNot_w : wpE (tNot t ρ M) QB X = wpE (t ρ M) (fun b M => QB (!b) M) X := by unfold tNot; rw [wpE_bind]; rfl
@[simp] theorem tAnd_w : wpE (tAnd t u ρ M) QB X = wpE (t ρ M) (fun b M => (b = true → wpE (u ρ M) QB X) ∧ (b = false → QB false M)) X := by
  unfold tAnd; rw [wpE_bind]
  congr 1; funext x M
  cases x <;> simp [wpE_ok]
@[simp] theorem tOr_w : wpE (tOr t u ρ M) QB X = wpE (t ρ M) (fun b M => (b = false → wpE (u ρ M) QB X) ∧ (b = true → QB true M)) X := by
  unfold tOr; rw [wpE_bind]
  congr 1; funext x M
  cases x <;> simp [wpE_ok]
@[simp] theorem eAnd_w : wpE (eAnd a b ρ M) Q X = wpE (a ρ M) (fun x M => wpO (truD M x) (fun c => (c = true → wpE (b ρ M) Q X) ∧ (c = false → Q x M))) X := by
  unfold eAnd; rw [wpE_bind]
  congr 1; funext x M
  cases truD M x with
  | none => rfl
  | some c => cases c <;> simp [wpE_ok, wpO]
@[simp] theorem eOr_w : wpE (eOr a b ρ M) Q X = wpE (a ρ M) (fun x M => wpO (truD M x) (fun c => (c = false → wpE (b ρ M) Q X) ∧ (c = true → Q x M))) X := by
  unfold eOr; rw [wpE_bind]
  congr 1; funext x M
  cases truD M x with
  | none => rfl
  | some c => cases c <;> simp [wpE_ok, wpO]
@[simp] theorem eNot_w : wpE (eNot a ρ M) Q X = wpE (a ρ M) (fun x M => wpO (truD M x) (fun c => Q (.bl (!c)) M)) X := by
  unfold eNot; rw [wpE_bind]
  congr 1; funext x M
  cases truD M x <;> rfl
@[simp] theorem eIf_w : wpE (eIf t a b ρ M) Q X = wpE (t ρ M) (fun c M => (c = true → wpE (a ρ M) Q X) ∧ (c = false → wpE (b ρ M) Q X)) X := by
  unfold eIf; rw [wpE_bind]
  congr 1; funext x M
  cases x <;> simp
@[simp] theorem eCh_w {h h' : F2} {c : FE} : wpE (eCh h h' a b c ρ M) Q X = wpE (a ρ M) (fun x M => wpE (b ρ M) (fun y M => wpE (h x y M) (fun z M => wpB z (fun k => (k = true → wpE (c ρ M) (fun w M => wpE (h' y w M) Q X) X) ∧ (k = false → Q (.bl false) M))) X) X) X := by
  unfold eCh; rw [wpE_bind]
  congr 1; funext x M
  rw [wpE_bind]
  congr 1; funext y M
  rw [wpE_bind]
  congr 1; funext z M
  cases z with
  | bl k => cases k <;> simp [wpE_ok, wpB, wpE_bind]
  | _ => rfl
@[simp] theorem eFld_w {cs : List Str} {f : Str} : wpE (eFld cs f a ρ M) Q X = wpE (a ρ M) (fun x M => wpO (getFld cs f M x) (fun d => Q d M)) X := by
  unfold eFld; rw [wpE_bind]
  congr 1; funext x M
  cases getFld cs f M x <;> rfl
@[simp] theorem eCal_w {G : FCal} : wpE (eCal G g g' ρ M) Q X = wpE (g ρ M) (fun ds M => wpE (g' ρ M) (fun es M => wpE (G ds es M) Q X) X) X := by
  unfold eCal; rw [wpE_bind]; simp only [wpE_bind]
@[simp] theorem eCm_w {c : Str} {G : FCal} : wpE (eCm c G g g' ρ M) Q X = wpE (g ρ M) (fun ds M => wpE (g' ρ M) (fun es M => wpE (G (.gl c :: ds) es M) Q X) X) X := by
  unfold eCm; rw [wpE_bind]; simp only [wpE_bind]
@[simp] theorem eCalS_w {G : FCal} : wpE (eCalS G a g' ρ M) Q X = wpE (a ρ M) (fun d M => wpE (g' ρ M) (fun es M => wpO (seqA M d) (fun xs => wpE (G xs es M) Q X)) X) X := by
  unfold eCalS; rw [wpE_bind]
  congr 1; funext x M
  rw [wpE_bind]
  congr 1; funext y M
  cases seqA M x <;> rfl
@[simp] theorem eMeth_w {m : Str} {tb : MTb} : wpE (eMeth m tb a g g' ρ M) Q X = wpE (a ρ M) (fun x M => wpO (insOf M x) (fun p => wpO (tb.lookup p.2.1) (fun G => noAt m p.2.2 ∧ wpE (g ρ M) (fun ds M => wpE (g' ρ M) (fun es M => wpE (G (.ref p.1 :: ds) es M) Q X) X) X))) X := by
  unfold eMeth; rw [wpE_bind]
  congr 1; funext x M
  cases insOf M x with
  | none => rfl
  | some p =>
    obtain ⟨n, c, fs⟩ := p
    dsimp only [wpO]
    cases tb.lookup c with
    | none => rfl
    | some G =>
      dsimp only
      unfold noAt
      cases h : fs.lookup m with
      | none => simp [wpE_bind]
      | some z => simp [wpE_no]
@[simp] theorem eProp_w {tb : PTb} : wpE (eProp tb a ρ M) Q X = wpE (a ρ M) (fun x M => wpO (insOf M x) (fun p => wpO (tb.lookup p.2.1) (fun G => wpE (G [.ref p.1] M) Q (fun _ _ => False)))) X := by
  unfold eProp; rw [wpE_bind]
  congr 1; funext x M
  cases insOf M x with
  | none => rfl
  | some p =>
    obtain ⟨n, c, fs⟩ := p
    dsimp only [wpO]
    cases tb.lookup c with
    | none => rfl
    | some G => exact wpE_noEx
@[simp] theorem eInst_w {tb : MTb} : wpE (eInst tb a g ρ M) Q X = wpE (a ρ M) (fun x M => wpR x (fun k => wpE (g ρ M) (fun ds M => wpO (insOf M (.ref k)) (fun p => wpO (tb.lookup p.2.1) (fun G => wpE (G (.ref p.1 :: ds) [] M) Q X))) X)) X := by
  unfold eInst; rw [wpE_bind]
  congr 1; funext x M
  cases x with
  | ref k =>
    dsimp only [wpR]
    rw [wpE_bind]
    congr 1; funext ds M
    cases insOf M (.ref k) with
    | none => rfl
    | some p =>
      obtain ⟨n, c, fs⟩ := p
      dsimp only [wpO]
      cases tb.lookup c <;> rfl
  | _ => rfl
@[simp] theorem eVal_w {tb : MTb} : wpE (eVal tb a g g' ρ M) Q X = wpE (a ρ M) (fun x M => wpG x (fun c => wpO (tb.lookup c) (fun G => wpE (g ρ M) (fun ds M => wpE (g' ρ M) (fun es M => wpE (G ds es M) Q X) X) X))) X := by
  unfold eVal; rw [wpE_bind]
  congr 1; funext x M
  cases x with
  | gl c =>
    dsimp only [wpG]
    cases tb.lookup c with
    | none => rfl
    | some G => simp only [wpO, wpE_bind]
  | _ => rfl
@[simp] theorem eValS_w {tb : MTb} : wpE (eValS tb a b g' ρ M) Q X = wpE (a ρ M) (fun x M => wpG x (fun c => wpO (tb.lookup c) (fun G => wpE (b ρ M) (fun d M => wpE (g' ρ M) (fun es M => wpO (seqA M d) (fun xs => wpE (G xs es M) Q X)) X) X))) X := by
  unfold eValS; rw [wpE_bind]
  congr 1; funext x M
  cases x with
  | gl c =>
    dsimp only [wpG]
    cases tb.lookup c with
    | none => rfl
    | some G =>
      simp only [wpO, wpE_bind]
      congr 1; funext d M
      congr 1; funext es M
      cases seqA M d <;> rfl
  | _ => rfl
@[simp] theorem eKGet_w {nm : Str} {kvs : List (Str × D)} : wpE (eKGet nm kvs a b ρ M) Q X = wpE (a ρ M) (fun k M => wpE (b ρ M) (fun d M => wpStr k (fun z => Q ((kvs.lookup z).getD d) M)) X) X := by
  unfold eKGet; rw [wpE_bind]
  congr 1; funext x M
  rw [wpE_bind]
  congr 1; funext d M
  cases x <;> rfl
@[simp] theorem eAppend_w : wpE (eAppend a g ρ M) Q X = wpE (a ρ M) (fun x M => wpR x (fun n => wpO (seqL M (.ref n)) (fun _ => wpE (g ρ M) (fun ds M => wpE (gAppend (.ref n) ds M) Q X) X))) X := by
  unfold eAppend; rw [wpE_bind]
  congr 1; funext x M
  cases x with
  | ref n =>
    dsimp only [wpR, seqL]
    cases M[n]? with
    | none => rfl
    | some o => cases o <;> first | rfl | exact wpE_bind
  | _ => rfl
@[simp] theorem ePop_w : wpE (ePop a ρ M) Q X = wpE (a ρ M) (fun x M => wpE (gPop x [] M) Q X) X := wpE_bind
@[simp] theorem eSl_w {lo hi : FO} : wpE (eSl a lo hi ρ M) Q X = wpE (a ρ M) (fun x M => wpE (lo ρ M) (fun l M => wpE (hi ρ M) (fun h M => wpE (gSl x l h M) Q X) X) X) X := by
  unfold eSl; rw [wpE_bind]; simp only [wpE_bind]
@[simp] theorem oN_w {Q : Option Int → Mem → Prop} : wpE (oN ρ M) Q X = Q none M := rfl
@[simp] theorem oS_w {Q : Option Int → Mem → Prop} : wpE (oS a ρ M) Q X = wpE (a ρ M) (fun x M => wpI x (fun k => Q (some k) M)) X := by
  unfold oS; rw [wpE_bind]
  congr 1; funext x M
  cases x <;> rfl
/-! calls -/
@[simp] theorem gC_w {n m : Nat} {gD : List D → List D → List D} {f : FL} {ds es : List D} : wpE (gC n m gD f ds es M) Q X = ((ds.length = n ∧ es.length = m) ∧ wpE (f (gD ds es) M) Q X) := by
  unfold gC
  by_cases h : ds.length = n ∧ es.length = m
  · simp [h]
  · simp [h, wpE_no]
@[simp] theorem gCs_w {p m : Nat} {gD : List D → List D → List D} {f : FL} {ds es : List D} : wpE (gCs p m gD f ds es M) Q X = (((p ≤ ds.length ∧ ds.length ≤ 1000) ∧ es.length = m) ∧ wpE (f (gD ds es) M) Q X) := by
  unfold gCs
  by_cases h : (p ≤ ds.length ∧ ds.length ≤ 1000) ∧ es.length = m
  · simp [h]
  · simp only [h, if_false, wpE_no, false_and]
@[simp] theorem gCall_w {n : Nat} {gD : List D → List D → List D} {f : FL} {ds : List D} : wpE (gCall n gD f ds M) Q X = (ds.length = n ∧ wpE (f (gD ds []) M) Q X) := by
  unfold gCall
  by_cases h : ds.length = n
  · simp [h]
  · simp [h, wpE_no]
@[simp] theorem eK_w {n m : Nat} {gD : List D → List D → List D} {f : FL} : wpE (eK n m gD f g g' ρ M) Q X = wpE (g ρ M) (fun ds M => wpE (g' ρ M) (fun es M => (ds.length = n ∧ es.length = m) ∧ wpE (f (gD ds es) M) Q X) X) X := by
  unfold eK; rw [wpE_bind]
  congr 1; funext ds M
  rw [wpE_bind]
  congr 1; funext es M
  by_cases h : ds.length = n ∧ es.length = m
  · simp [h]
  · simp [h, wpE_no]
@[simp] theorem gMk_w {c : Str} {G : FCal} {ds es : List D} : wpE (gMk c G ds es M) Q X = wpE (G (.ref M.length :: ds) es (M ++ [.ins c []])) (fun d M' => d = .non ∧ Q (.ref M.length) M') X := by
  unfold gMk
  cases G (.ref M.length :: ds) es (M ++ [.ins c []]) with
  | ok d M' => cases d <;> simp [mkR, wpE]
  | ex e M' => rfl
  | no => rfl
@[simp] theorem gTup_w {ds : List D} : wpE (gTup ds M) Q X = (ds.length ≤ sizeLine ∧ Q (.tup ds) M) := by
  unfold gTup; by_cases h : ds.length ≤ sizeLine <;> simp [h, wpE_no, wpE_ok]
@[simp] theorem gLst_w {ds : List D} : wpE (gLst ds M) Q X = (ds.length ≤ sizeLine ∧ Q (.lst ds) M) := by
  unfold gLst; by_cases h : ds.length ≤ sizeLine <;> simp [h, wpE_no, wpE_ok]
@[simp] theorem gNew_w {ds : List D} : wpE (gNew ds M) Q X = (ds.length ≤ sizeLine ∧ Q (.ref M.length) (M ++ [.lst ds])) := by
  unfold gNew; by_cases h : ds.length ≤ sizeLine <;> simp [h, wpE_no, wpE_ok]
@[simp] theorem run_w {f : FStm} {n : Nat} {ds : List D} : wpE (Br.run f n ds M) Q X = wpS (f (st0 n ds) M) (fun _ M => Q .non M) Q (fun _ _ => False) (fun _ _ => False) (fun e _ M => X e M) := by
  unfold Br.run
  cases f (st0 n ds) M with
  | go fl ρ M => cases fl <;> rfl
  | ex e ρ M => rfl
  | no => rfl
end
/-! ### statements -/
section
variable {n b c : En → Mem → Prop} {r : D → Mem → Prop} {x : Exn → En → Mem → Prop} {f v : FE} {g : FA} {t : FT} {s1 s2 : FStm} {gg : FG} {ρ : En} {M : Mem} {i : Nat} {d : D} {gs : List D → FStm}
theorem wpS_of {α : Type} {q : R α} {k : α → Mem → SR} : wpS (SR.of q ρ k) n r b c x = wpE q (fun a M => wpS (k a M) n r b c x) (fun e M => x e ρ M) := by cases q <;> rfl
theorem wpS_then {s : SR} {k : En → Mem → SR} : wpS (s.then k) n r b c x = wpS s (fun ρ M => wpS (k ρ M) n r b c x) r b c x := by
  cases s with
  | go fl ρ M => cases fl <;> rfl
  | ex e ρ M => rfl
  | no => rfl
@[simp] theorem sSeq_w : wpS (sSeq s1 s2 ρ M) n r b c x = wpS (s1 ρ M) (fun ρ M => wpS (s2 ρ M) n r b c x) r b c x := wpS_then
@[simp] theorem sNx_w : wpS (sNx ρ M) n r b c x = n ρ M := rfl
@[simp] theorem sBk_w : wpS (sBk ρ M) n r b c x = b ρ M := rfl
@[simp] theorem sCt_w : wpS (sCt ρ M) n r b c x = c ρ M := rfl
@[simp] theorem sRetN_w : wpS (sRetN ρ M) n r b c x = r .non M := rfl
@[simp] theorem sDrop_w : wpS (sDrop f ρ M) n r b c x = wpE (f ρ M) (fun _ M => n ρ M) (fun e M => x e ρ M) := wpS_of
@[simp] theorem sRet_w : wpS (sRet f ρ M) n r b c x = wpE (f ρ M) (fun d M => r d M) (fun e M => x e ρ M) := wpS_of
@[simp] theorem sIf_w : wpS (sIf t s1 s2 ρ M) n r b c x = wpE (t ρ M) (fun k M => (k = true → wpS (s1 ρ M) n r b c x) ∧ (k = false → wpS (s2 ρ M) n r b c x)) (fun e M => x e ρ M) := by
  unfold sIf; rw [wpS_of]
  congr 1; funext k M
  cases k <;> simp
@[simp] theorem gN_w : wpS (gN i d ρ M) n r b c x = n (ρ.set i (some d)) M := rfl
@[simp] theorem sAsg_w : wpS (sAsg f gg ρ M) n r b c x = wpE (f ρ M) (fun d M => wpS (gg d ρ M) n r b c x) (fun e M => x e ρ M) := wpS_of
@[simp] theorem sAsgT_w : wpS (sAsgT f gg ρ M) n r b c x = wpE (f ρ M) (fun d M => wpS (gg d ρ M) n (fun _ _ => False) (fun _ _ => False) (fun _ _ => False) x) (fun e M => x e ρ M) := by
  unfold sAsgT; rw [wpS_of]
  congr 1; funext k M
  cases gg k ρ M with
  | go fl ρ M => cases fl <;> rfl
  | ex e ρ M => rfl
  | no => rfl
@[simp] theorem gTp_w {k : Nat} : wpS (gTp k gs d ρ M) n r b c x = wpT d (fun ds => ds.length = k ∧ wpS (gs ds ρ M) n r b c x) := by
  unfold gTp
  cases d with
  | tup ds =>
    dsimp only [wpT]
    by_cases h : ds.length = k
    · simp [h]
    · simp [h, wpS]
  | _ => rfl
@[simp] theorem gTpA_w {k : Nat} : wpS (gTpA k gs d ρ M) n r b c x = wpO (seqA M d) (fun ds => ds.length = k ∧ wpS (gs ds ρ M) n r b c x) := by
  unfold gTpA
  cases seqA M d with
  | some ds =>
    dsimp only [wpO]
    by_cases h : ds.length = k
    · simp [h]
    · simp [h, wpS]
  | none => rfl
@[simp] theorem gsN_w : wpS (gsN [] ρ M) n r b c x = n ρ M := rfl
@[simp] theorem gsC_w {ds : List D} : wpS (gsC gg gs (d :: ds) ρ M) n r b c x = wpS (gg d ρ M) (fun ρ M => wpS (gs ds ρ M) n r b c x) r b c x := wpS_then
@[simp] theorem gSb_w {v : FE} : wpS (gSb f v d ρ M) n r b c x = wpE (f ρ M) (fun o M => wpE (v ρ M) (fun k M => wpO (setD o k d M) (fun M => n ρ M)) (fun e M => x e ρ M)) (fun e M => x e ρ M) := by
  unfold gSb; rw [wpS_of]
  congr 1; funext o M
  rw [wpS_of]
  congr 1; funext k M
  cases setD o k d M <;> rfl
@[simp] theorem gFld_w {cs : List Str} {nm : Str} : wpS (gFld cs nm f d ρ M) n r b c x = wpE (f ρ M) (fun o M => wpO (setFld cs nm M o d) (fun M => n ρ M)) (fun e M => x e ρ M) := by
  unfold gFld; rw [wpS_of]
  congr 1; funext o M
  cases setFld cs nm M o d <;> rfl
@[simp] theorem sFldM_w {cs : List Str} {nm : Str} : wpS (sFldM cs nm f v ρ M) n r b c x = wpE (v ρ M) (fun d M => wpE (f ρ M) (fun o M => wpO (setFld cs nm M o d) (fun M => n ρ M)) (fun e M => x e ρ M)) (fun e M => x e ρ M) := by
  unfold sFldM; rw [wpS_of]
  congr 1; funext d M
  rw [wpS_of]
  congr 1; funext o M
  cases setFld cs nm M o d <;> rfl
def setAll (is : List Nat) (ds : List D) (ρ : En) : En := (is.zip ds).foldl (fun ρ p => ρ.set p.1 (some p.2)) ρ
@[simp] theorem setAll_nil {ds : List D} : setAll [] ds ρ = ρ := rfl
@[simp] theorem setAll_cons {k : Nat} {is : List Nat} {ds : List D} : setAll (k :: is) (d :: ds) ρ = setAll is ds (ρ.set k (some d)) := rfl
@[simp] theorem sPar_w {is : List Nat} : wpS (sPar is g ρ M) n r b c x = wpE (g ρ M) (fun ds M => ds.length = is.length ∧ n (setAll is ds ρ) M) (fun e M => x e ρ M) := by
  unfold sPar; rw [wpS_of]
  congr 1; funext ds M
  by_cases h : ds.length = is.length
  · simp [h, wpS, setAll]
  · simp [h, wpS]
@[simp] theorem sAugI_w {h : Int → Int → Int} : wpS (sAugI i h f ρ M) n r b c x = wpV ρ[i]? (fun d => wpI d (fun j => wpE (f ρ M) (fun e M => wpI e (fun k => n (ρ.set i (some (.int (h j k)))) M)) (fun e M => x e ρ M))) := by
  unfold sAugI
  cases hi : ρ[i]? with
  | none => rfl
  | some o =>
    cases o with
    | none => rfl
    | some d =>
      cases d with
      | int j =>
        dsimp only [wpV, wpI]
        rw [wpS_of]
        congr 1; funext e M
        cases e <;> rfl
      | _ => rfl
@[simp] theorem sForE_w {m : Nat} {fw : En → Mem → R Wk} : wpS (sForE m fw gg s1 ρ M) n r b c x = wpE (fw ρ M) (fun w M => wpS (sForW m w gg s1 ρ M) n r b c x) (fun e M => x e ρ M) := wpS_of
@[simp] theorem wIt_w {Q : Wk → Mem → Prop} {X : Exn → Mem → Prop} : wpE (wIt f ρ M) Q X = wpE (f ρ M) (fun d M => wpO (wkOf M d) (fun w => Q w M)) X := by
  unfold wIt; rw [wpE_bind]
  congr 1; funext d M
  cases wkOf M d <;> rfl
@[simp] theorem sMatch_w {gc : D → FStm} : wpS (sMatch f gc ρ M) n r b c x = wpE (f ρ M) (fun d M => wpS (gc d ρ M) n r b c x) (fun e M => x e ρ M) := wpS_of
@[simp] theorem cN_w : wpS (cN d ρ M) n r b c x = n ρ M := rfl
@[simp] theorem cA_w : wpS (cA s1 d ρ M) n r b c x = wpS (s1 ρ M) n r b c x := rfl
@[simp] theorem cV_w {gc : D → FStm} : wpS (cV f s1 gc d ρ M) n r b c x = wpE (f ρ M) (fun y M => wpO (eqD M d y) (fun k => (k = true → wpS (s1 ρ M) n r b c x) ∧ (k = false → wpS (gc d ρ M) n r b c x))) (fun e M => x e ρ M) := by
  unfold cV; rw [wpS_of]
  congr 1; funext y M
  cases eqD M d y with
  | none => rfl
  | some k => cases k <;> simp [wpO]
@[simp] theorem cO_nil {gc : D → FStm} : wpS (cO [] s1 gc d ρ M) n r b c x = wpS (gc d ρ M) n r b c x := rfl
@[simp] theorem cO_w {fs : List FE} {gc : D → FStm} : wpS (cO (f :: fs) s1 gc d ρ M) n r b c x = wpE (f ρ M) (fun y M => wpO (eqD M d y) (fun k => (k = true → wpS (s1 ρ M) n r b c x) ∧ (k = false → wpS (cO fs s1 gc d ρ M) n r b c x))) (fun e M => x e ρ M) := by
  show wpS (SR.of (f ρ M) ρ fun y M1 => match eqD M1 d y with
    | some true => s1 ρ M1
    | some false => cO fs s1 gc d ρ M1
    | none => .no) n r b c x = _
  rw [wpS_of]
  congr 1; funext y M
  cases eqD M d y with
  | none => rfl
  | some k => cases k <;> simp [wpO]
theorem wpS_mono {s : SR} {n' b' c' : En → Mem → Prop} {r' : D → Mem → Prop} {x' : Exn → En → Mem → Prop} (h : wpS s n r b c x) (hn : ∀ ρ M, n ρ M → n' ρ M) (hr : ∀ d M, r d M → r' d M) (hb : ∀ ρ M, b ρ M → b' ρ M) (hc : ∀ ρ M, c ρ M → c' ρ M) (hx : ∀ e ρ M, x e ρ M → x' e ρ M) : wpS s n' r' b' c' x' := by
  cases s with
  | go fl ρ M => cases fl <;> first | exact hn _ _ h | exact hr _ _ h | exact hb _ _ h | exact hc _ _ h
  | ex e ρ M => exact hx _ _ _ h
  | no => exact h
theorem for_w (I : List D → En → Mem → Prop) (ht : ∀ y ys ρ M, I (y :: ys) ρ M → wpS (gg y ρ M) (fun ρ M => wpS (s1 ρ M) (I ys) r n (I ys) x) (fun _ _ => False) (fun _ _ => False) (fun _ _ => False) (fun _ _ _ => False)) (he : ∀ ρ M, I [] ρ M → n ρ M) : ∀ (ds : List D) (ρ : En) (M : Mem), I ds ρ M → wpS (sFor gg s1 ds ρ M) n r b c x
  | [], ρ, M, h => he ρ M h
  | y :: ys, ρ, M, h => by
    have h1 := ht y ys ρ M h
    have ih := for_w I ht he ys
    unfold sFor turn
    cases hg : gg y ρ M with
    | go fl ρ1 M1 =>
      rw [hg] at h1
      cases fl with
      | nx =>
        dsimp only
        have h2 : wpS (s1 ρ1 M1) (I ys) r n (I ys) x := h1
        cases hs : s1 ρ1 M1 with
        | go fl ρ2 M2 =>
          rw [hs] at h2
          cases fl with
          | nx => exact ih ρ2 M2 h2
          | ret d => exact h2
          | bk => exact h2
          | ct => exact ih ρ2 M2 h2
        | ex e ρ2 M2 => rw [hs] at h2; exact h2
        | no => rw [hs] at h2; exact h2.elim
      | ret d => exact h1.elim
      | bk => exact h1.elim
      | ct => exact h1.elim
    | ex e ρ1 M1 => rw [hg] at h1; exact h1.elim
    | no => rw [hg] at h1; exact h1.elim
theorem while_w {t : FT} (I : Nat → En → Mem → Prop) (ht : ∀ k ρ M, I k ρ M → wpE (t ρ M) (fun z M => (z = true → wpS (s1 ρ M) (fun ρ M => ∃ j, j < k ∧ I j ρ M) r n (fun ρ M => ∃ j, j < k ∧ I j ρ M) x) ∧ (z = false → n ρ M)) (fun e M => x e ρ M)) : ∀ (m k : Nat) (ρ : En) (M : Mem), k < m → I k ρ M → wpS (sWhile m t s1 ρ M) n r b c x
  | 0, k, ρ, M, hk, h => absurd hk (Nat.not_lt_zero _)
  | m + 1, k, ρ, M, hk, h => by
    have h1 := ht k ρ M h
    have ih := while_w I ht m
    unfold sWhile
    rw [wpS_of]
    refine wpE_mono h1 (fun z M1 h2 => ?_) fun _ _ z => z
    cases z with
    | false => exact h2.2 rfl
    | true =>
      have h3 := h2.1 rfl
      rw [if_pos rfl]
      cases hs : s1 ρ M1 with
      | go fl ρ2 M2 =>
        rw [hs] at h3
        cases fl with
        | nx => obtain ⟨j, hj, h4⟩ := h3; exact ih j ρ2 M2 (by omega) h4
        | ret d => exact h3
        | bk => exact h3
        | ct => obtain ⟨j, hj, h4⟩ := h3; exact ih j ρ2 M2 (by omega) h4
      | ex e ρ2 M2 => rw [hs] at h3; exact h3
      | no => rw [hs] at h3; exact h3.elim
end
end Br
end
section
namespace Br
open PySem PySem.Spec L2
@[simp] theorem sb1 : ((("cache" : Str) == ("once" : Str))) = false := by decide
@[simp] theorem se1 : ((("cache" : Str) = ("once" : Str))) = False := eq_false (by decide)
@[simp] theorem sb2 : ((("cache" : Str) == ("stale" : Str))) = false := by decide
@[simp] theorem se2 : ((("cache" : Str) = ("stale" : Str))) = False := eq_false (by decide)
@[simp] theorem sb3 : ((("cache" : Str) == ("limit" : Str))) = false := by decide
@[simp] theorem se3 : ((("cache" : Str) = ("limit" : Str))) = False := eq_false (by decide)
@[simp] theorem sb4 : ((("cache" : Str) == ("depth" : Str))) = false := by decide
@[simp] theorem se4 : ((("cache" : Str) = ("depth" : Str))) = False := eq_false (by decide)
@[simp] theorem sb5 : ((("cache" : Str) == ("guard" : Str))) = false := by decide
@[simp] theorem se5 : ((("cache" : Str) = ("guard" : Str))) = False := eq_false (by decide)
@[simp] theorem sb6 : ((("cache" : Str) == ("breaker" : Str))) = false := by decide
@[simp] theorem se6 : ((("cache" : Str) = ("breaker" : Str))) = False := eq_false (by decide)
@[simp] theorem sb7 : ((("cache" : Str) == ("retry" : Str))) = false := by decide
@[simp] theorem se7 : ((("cache" : Str) = ("retry" : Str))) = False := eq_false (by decide)
@[simp] theorem sb8 : ((("cache" : Str) == ("swallow" : Str))) = false := by decide
@[simp] theorem se8 : ((("cache" : Str) = ("swallow" : Str))) = False := eq_false (by decide)
@[simp] theorem sb9 : ((("cache" : Str) == ("rename" : Str))) = false := by decide
@[simp] theorem se9 : ((("cache" : Str) = ("rename" : Str))) = False := eq_false (by decide)
@[simp] theorem sb10 : ((("cache" : Str) == ("lead" : Str))) = false := by decide
@[simp] theorem se10 : ((("cache" : Str) = ("lead" : Str))) = False := eq_false (by decide)
@[simp] theorem sb11 : ((("once" : Str) == ("cache" : Str))) = false := by decide
@[simp] theorem se11 : ((("once" : Str) = ("cache" : Str))) = False := eq_false (by decide)
@[simp] theorem sb12 : ((("once" : Str) == ("stale" : Str))) = false := by decide
@[simp] theorem se12 : ((("once" : Str) = ("stale" : Str))) = False := eq_false (by decide)
@[simp] theorem sb13 : ((("once" : Str) == ("limit" : Str))) = false := by decide
@[simp] theorem se13 : ((("once" : Str) = ("limit" : Str))) = False := eq_false (by decide)
@[simp] theorem sb14 : ((("once" : Str) == ("depth" : Str))) = false := by decide
@[simp] theorem se14 : ((("once" : Str) = ("depth" : Str))) = False := eq_false (by decide)
@[simp] theorem sb15 : ((("once" : Str) == ("guard" : Str))) = false := by decide
@[simp] theorem se15 : ((("once" : Str) = ("guard" : Str))) = False := eq_false (by decide)
@[simp] theorem sb16 : ((("once" : Str) == ("breaker" : Str))) = false := by decide
@[simp] theorem se16 : ((("once" : Str) = ("breaker" : Str))) = False := eq_false (by decide)
@[simp] theorem sb17 : ((("once" : Str) == ("retry" : Str))) = false := by decide
@[simp] theorem se17 : ((("once" : Str) = ("retry" : Str))) = False := eq_false (by decide)
@[simp] theorem sb18 : ((("once" : Str) == ("swallow" : Str))) = false := by decide
@[simp] theorem se18 : ((("once" : Str) = ("swallow" : Str))) = False := eq_false (by decide)
@[simp] theorem sb19 : ((("once" : Str) == ("rename" : Str))) = false := by decide
@[simp] theorem se19 : ((("once" : Str) = ("rename" : Str))) = False := eq_false (by decide)
@[simp] theorem sb20 : ((("once" : Str) == ("lead" : Str))) = false := by decide
@[simp] theorem se20 : ((("once" : Str) = ("lead" : Str))) = False := eq_false (by decide)
@[simp] theorem sb21 : ((("stale" : Str) == ("cache" : Str))) = false := by decide
@[simp] theorem se21 : ((("stale" : Str) = ("cache" : Str))) = False := eq_false (by decide)
@[simp] theorem sb22 : ((("stale" : Str) == ("once" : Str))) = false := by decide
@[simp] theorem se22 : ((("stale" : Str) = ("once" : Str))) = False := eq_false (by decide)
@[simp] theorem sb23 : ((("stale" : Str) == ("limit" : Str))) = false := by decide
@[simp] theorem se23 : ((("stale" : Str) = ("limit" : Str))) = False := eq_false (by decide)
@[simp] theorem sb24 : ((("stale" : Str) == ("depth" : Str))) = false := by decide
@[simp] theorem se24 : ((("stale" : Str) = ("depth" : Str))) = False := eq_false (by decide)
@[simp] theorem sb25 : ((("stale" : Str) == ("guard" : Str))) = false := by decide
@[simp] theorem se25 : ((("stale" : Str) = ("guard" : Str))) = False := eq_false (by decide)
@[simp] theorem sb26 : ((("stale" : Str) == ("breaker" : Str))) = false := by decide
@[simp] theorem se26 : ((("stale" : Str) = ("breaker" : Str))) = False := eq_false (by decide)
@[simp] theorem sb27 : ((("stale" : Str) == ("retry" : Str))) = false := by decide
@[simp] theorem se27 : ((("stale" : Str) = ("retry" : Str))) = False := eq_false (by decide)
@[simp] theorem sb28 : ((("stale" : Str) == ("swallow" : Str))) = false := by decide
@[simp] theorem se28 : ((("stale" : Str) = ("swallow" : Str))) = False := eq_false (by decide)
@[simp] theorem sb29 : ((("stale" : Str) == ("rename" : Str))) = false := by decide
@[simp] theorem se29 : ((("stale" : Str) = ("rename" : Str))) = False := eq_false (by decide)
@[simp] theorem sb30 : ((("stale" : Str) == ("lead" : Str))) = false := by decide
@[simp] theorem se30 : ((("stale" : Str) = ("lead" : Str))) = False := eq_false (by decide)
@[simp] theorem sb31 : ((("limit" : Str) == ("cache" : Str))) = false := by decide
@[simp] theorem se31 : ((("limit" : Str) = ("cache" : Str))) = False := eq_false (by decide)
@[simp] theorem sb32 : ((("limit" : Str) == ("once" : Str))) = false := by decide
@[simp] theorem se32 : ((("limit" : Str) = ("once" : Str))) = False := eq_false (by decide)
@[simp] theorem sb33 : ((("limit" : Str) == ("stale" : Str))) = false := by decide
@[simp] theorem se33 : ((("limit" : Str) = ("stale" : Str))) = False := eq_false (by decide)
@[simp] theorem sb34 : ((("limit" : Str) == ("depth" : Str))) = false := by decide
@[simp] theorem se34 : ((("limit" : Str) = ("depth" : Str))) = False := eq_false (by decide)
@[simp] theorem sb35 : ((("limit" : Str) == ("guard" : Str))) = false := by decide
@[simp] theorem se35 : ((("limit" : Str) = ("guard" : Str))) = False := eq_false (by decide)
@[simp] theorem sb36 : ((("limit" : Str) == ("breaker" : Str))) = false := by decide
@[simp] theorem se36 : ((("limit" : Str) = ("breaker" : Str))) = False := eq_false (by decide)
@[simp] theorem sb37 : ((("limit" : Str) == ("retry" : Str))) = false := by decide
@[simp] theorem se37 : ((("limit" : Str) = ("retry" : Str))) = False := eq_false (by decide)
@[simp] theorem sb38 : ((("limit" : Str) == ("swallow" : Str))) = false := by decide
@[simp] theorem se38 : ((("limit" : Str) = ("swallow" : Str))) = False := eq_false (by decide)
@[simp] theorem sb39 : ((("limit" : Str) == ("rename" : Str))) = false := by decide
@[simp] theorem se39 : ((("limit" : Str) = ("rename" : Str))) = False := eq_false (by decide)
@[simp] theorem sb40 : ((("limit" : Str) == ("lead" : Str))) = false := by decide
@[simp] theorem se40 : ((("limit" : Str) = ("lead" : Str))) = False := eq_false (by decide)
@[simp] theorem sb41 : ((("depth" : Str) == ("cache" : Str))) = false := by decide
@[simp] theorem se41 : ((("depth" : Str) = ("cache" : Str))) = False := eq_false (by decide)
@[simp] theorem sb42 : ((("depth" : Str) == ("once" : Str))) = false := by decide
@[simp] theorem se42 : ((("depth" : Str) = ("once" : Str))) = False := eq_false (by decide)
@[simp] theorem sb43 : ((("depth" : Str) == ("stale" : Str))) = false := by decide
@[simp] theorem se43 : ((("depth" : Str) = ("stale" : Str))) = False := eq_false (by decide)
@[simp] theorem sb44 : ((("depth" : Str) == ("limit" : Str))) = false := by decide
@[simp] theorem se44 : ((("depth" : Str) = ("limit" : Str))) = False := eq_false (by decide)
@[simp] theorem sb45 : ((("depth" : Str) == ("guard" : Str))) = false := by decide
@[simp] theorem se45 : ((("depth" : Str) = ("guard" : Str))) = False := eq_false (by decide)
@[simp] theorem sb46 : ((("depth" : Str) == ("breaker" : Str))) = false := by decide
@[simp] theorem se46 : ((("depth" : Str) = ("breaker" : Str))) = False := eq_false (by decide)
@[simp] theorem sb47 : ((("depth" : Str) == ("retry" : Str))) = false := by decide
@[simp] theorem se47 : ((("depth" : Str) = ("retry" : Str))) = False := eq_false (by decide)
@[simp] theorem sb48 : ((("depth" : Str) == ("swallow" : Str))) = false := by decide
@[simp] theorem se48 : ((("depth" : Str) = ("swallow" : Str))) = False := eq_false (by decide)
@[simp] theorem sb49 : ((("depth" : Str) == ("rename" : Str))) = false := by decide
@[simp] theorem se49 : ((("depth" : Str) = ("rename" : Str))) = False := eq_false (by decide)
@[simp] theorem sb50 : ((("depth" : Str) == ("lead" : Str))) = false := by decide
@[simp] theorem se50 : ((("depth" : Str) = ("lead" : Str))) = False := eq_false (by decide)
@[simp] theorem sb51 : ((("guard" : Str) == ("cache" : Str))) = false := by decide
@[simp] theorem se51 : ((("guard" : Str) = ("cache" : Str))) = False := eq_false (by decide)
@[simp] theorem sb52 : ((("guard" : Str) == ("once" : Str))) = false := by decide
@[simp] theorem se52 : ((("guard" : Str) = ("once" : Str))) = False := eq_false (by decide)
@[simp] theorem sb53 : ((("guard" : Str) == ("stale" : Str))) = false := by decide
@[simp] theorem se53 : ((("guard" : Str) = ("stale" : Str))) = False := eq_false (by decide)
@[simp] theorem sb54 : ((("guard" : Str) == ("limit" : Str))) = false := by decide
@[simp] theorem se54 : ((("guard" : Str) = ("limit" : Str))) = False := eq_false (by decide)
@[simp] theorem sb55 : ((("guard" : Str) == ("depth" : Str))) = false := by decide
@[simp] theorem se55 : ((("guard" : Str) = ("depth" : Str))) = False := eq_false (by decide)
@[simp] theorem sb56 : ((("guard" : Str) == ("breaker" : Str))) = false := by decide
@[simp] theorem se56 : ((("guard" : Str) = ("breaker" : Str))) = False := eq_false (by decide)
@[simp] theorem sb57 : ((("guard" : Str) == ("retry" : Str))) = false := by decide
@[simp] theorem se57 : ((("guard" : Str) = ("retry" : Str))) = False := eq_false (by decide)
@[simp] theorem sb58 : ((("guard" : Str) == ("swallow" : Str))) = false := by decide
@[simp] theorem se58 : ((("guard" : Str) = ("swallow" : Str))) = False := eq_false (by decide)
@[simp] theorem sb59 : ((("guard" : Str) == ("rename" : Str))) = false := by decide
@[simp] theorem se59 : ((("guard" : Str) = ("rename" : Str))) = False := eq_false (by decide)
@[simp] theorem sb60 : ((("guard" : Str) == ("lead" : Str))) = false := by decide
@[simp] theorem se60 : ((("guard" : Str) = ("lead" : Str))) = False := eq_false (by decide)
@[simp] theorem sb61 : ((("breaker" : Str) == ("cache" : Str))) = false := by decide
@[simp] theorem se61 : ((("breaker" : Str) = ("cache" : Str))) = False := eq_false (by decide)
@[simp] theorem sb62 : ((("breaker" : Str) == ("once" : Str))) = false := by decide
@[simp] theorem se62 : ((("breaker" : Str) = ("once" : Str))) = False := eq_false (by decide)
@[simp] theorem sb63 : ((("breaker" : Str) == ("stale" : Str))) = false := by decide
@[simp] theorem se63 : ((("breaker" : Str) = ("stale" : Str))) = False := eq_false (by decide)
@[simp] theorem sb64 : ((("breaker" : Str) == ("limit" : Str))) = false := by decide
@[simp] theorem se64 : ((("breaker" : Str) = ("limit" : Str))) = False := eq_false (by decide)
@[simp] theorem sb65 : ((("breaker" : Str) == ("depth" : Str))) = false := by decide
@[simp] theorem se65 : ((("breaker" : Str) = ("depth" : Str))) = False := eq_false (by decide)
@[simp] theorem sb66 : ((("breaker" : Str) == ("guard" : Str))) = false := by decide
@[simp] theorem se66 : ((("breaker" : Str) = ("guard" : Str))) = False := eq_false (by decide)
@[simp] theorem sb67 : ((("breaker" : Str) == ("retry" : Str))) = false := by decide
@[simp] theorem se67 : ((("breaker" : Str) = ("retry" : Str))) = False := eq_false (by decide)
@[simp] theorem sb68 : ((("breaker" : Str) == ("swallow" : Str))) = false := by decide
@[simp] theorem se68 : ((("breaker" : Str) = ("swallow" : Str))) = False := eq_false (by decide)
@[simp] theorem sb69 : ((("breaker" : Str) == ("rename" : Str))) = false := by decide
@[simp] theorem se69 : ((("breaker" : Str) = ("rename" : Str))) = False := eq_false (by decide)
@[simp] theorem sb70 : ((("breaker" : Str) == ("lead" : Str))) = false := by decide
@[simp] theorem se70 : ((("breaker" : Str) = ("lead" : Str))) = False := eq_false (by decide)
@[simp] theorem sb71 : ((("retry" : Str) == ("cache" : Str))) = false := by decide
@[simp] theorem se71 : ((("retry" : Str) = ("cache" : Str))) = False := eq_false (by decide)
@[simp] theorem sb72 : ((("retry" : Str) == ("once" : Str))) = false := by decide
@[simp] theorem se72 : ((("retry" : Str) = ("once" : Str))) = False := eq_false (by decide)
@[simp] theorem sb73 : ((("retry" : Str) == ("stale" : Str))) = false := by decide
@[simp] theorem se73 : ((("retry" : Str) = ("stale" : Str))) = False := eq_false (by decide)
@[simp] theorem sb74 : ((("retry" : Str) == ("limit" : Str))) = false := by decide
@[simp] theorem se74 : ((("retry" : Str) = ("limit" : Str))) = False := eq_false (by decide)
@[simp] theorem sb75 : ((("retry" : Str) == ("depth" : Str))) = false := by decide
@[simp] theorem se75 : ((("retry" : Str) = ("depth" : Str))) = False := eq_false (by decide)
@[simp] theorem sb76 : ((("retry" : Str) == ("guard" : Str))) = false := by decide
@[simp] theorem se76 : ((("retry" : Str) = ("guard" : Str))) = False := eq_false (by decide)
@[simp] theorem sb77 : ((("retry" : Str) == ("breaker" : Str))) = false := by decide
@[simp] theorem se77 : ((("retry" : Str) = ("breaker" : Str))) = False := eq_false (by decide)
@[simp] theorem sb78 : ((("retry" : Str) == ("swallow" : Str))) = false := by decide
@[simp] theorem se78 : ((("retry" : Str) = ("swallow" : Str))) = False := eq_false (by decide)
@[simp] theorem sb79 : ((("retry" : Str) == ("rename" : Str))) = false := by decide
@[simp] theorem se79 : ((("retry" : Str) = ("rename" : Str))) = False := eq_false (by decide)
@[simp] theorem sb80 : ((("retry" : Str) == ("lead" : Str))) = false := by decide
@[simp] theorem se80 : ((("retry" : Str) = ("lead" : Str))) = False := eq_false (by decide)
@[simp] theorem sb81 : ((("swallow" : Str) == ("cache" : Str))) = false := by decide
@[simp] theorem se81 : ((("swallow" : Str) = ("cache" : Str))) = False := eq_false (by decide)
@[simp] theorem sb82 : ((("swallow" : Str) == ("once" : Str))) = false := by decide
@[simp] theorem se82 : ((("swallow" : Str) = ("once" : Str))) = False := eq_false (by decide)
@[simp] theorem sb83 : ((("swallow" : Str) == ("stale" : Str))) = false := by decide
@[simp] theorem se83 : ((("swallow" : Str) = ("stale" : Str))) = False := eq_false (by decide)
@[simp] theorem sb84 : ((("swallow" : Str) == ("limit" : Str))) = false := by decide
@[simp] theorem se84 : ((("swallow" : Str) = ("limit" : Str))) = False := eq_false (by decide)
@[simp] theorem sb85 : ((("swallow" : Str) == ("depth" : Str))) = false := by decide
@[simp] theorem se85 : ((("swallow" : Str) = ("depth" : Str))) = False := eq_false (by decide)
@[simp] theorem sb86 : ((("swallow" : Str) == ("guard" : Str))) = false := by decide
@[simp] theorem se86 : ((("swallow" : Str) = ("guard" : Str))) = False := eq_false (by decide)
@[simp] theorem sb87 : ((("swallow" : Str) == ("breaker" : Str))) = false := by decide
@[simp] theorem se87 : ((("swallow" : Str) = ("breaker" : Str))) = False := eq_false (by decide)
@[simp] theorem sb88 : ((("swallow" : Str) == ("retry" : Str))) = false := by decide
@[simp] theorem se88 : ((("swallow" : Str) = ("retry" : Str))) = False := eq_false (by decide)
@[simp] theorem sb89 : ((("swallow" : Str) == ("rename" : Str))) = false := by decide
@[simp] theorem se89 : ((("swallow" : Str) = ("rename" : Str))) = False := eq_false (by decide)
@[simp] theorem sb90 : ((("swallow" : Str) == ("lead" : Str))) = false := by decide
@[simp] theorem se90 : ((("swallow" : Str) = ("lead" : Str))) = False := eq_false (by decide)
@[simp] theorem sb91 : ((("rename" : Str) == ("cache" : Str))) = false := by decide
@[simp] theorem se91 : ((("rename" : Str) = ("cache" : Str))) = False := eq_false (by decide)
@[simp] theorem sb92 : ((("rename" : Str) == ("once" : Str))) = false := by decide
@[simp] theorem se92 : ((("rename" : Str) = ("once" : Str))) = False := eq_false (by decide)
@[simp] theorem sb93 : ((("rename" : Str) == ("stale" : Str))) = false := by decide
@[simp] theorem se93 : ((("rename" : Str) = ("stale" : Str))) = False := eq_false (by decide)
@[simp] theorem sb94 : ((("rename" : Str) == ("limit" : Str))) = false := by decide
@[simp] theorem se94 : ((("rename" : Str) = ("limit" : Str))) = False := eq_false (by decide)
@[simp] theorem sb95 : ((("rename" : Str) == ("depth" : Str))) = false := by decide
@[simp] theorem se95 : ((("rename" : Str) = ("depth" : Str))) = False := eq_false (by decide)
@[simp] theorem sb96 : ((("rename" : Str) == ("guard" : Str))) = false := by decide
@[simp] theorem se96 : ((("rename" : Str) = ("guard" : Str))) = False := eq_false (by decide)
@[simp] theorem sb97 : ((("rename" : Str) == ("breaker" : Str))) = false := by decide
@[simp] theorem se97 : ((("rename" : Str) = ("breaker" : Str))) = False := eq_false (by decide)
@[simp] theorem sb98 : ((("rename" : Str) == ("retry" : Str))) = false := by decide
@[simp] theorem se98 : ((("rename" : Str) = ("retry" : Str))) = False := eq_false (by decide)
@[simp] theorem sb99 : ((("rename" : Str) == ("swallow" : Str))) = false := by decide
@[simp] theorem se99 : ((("rename" : Str) = ("swallow" : Str))) = False := eq_false (by decide)
@[simp] theorem sb100 : ((("rename" : Str) == ("lead" : Str))) = false := by decide
@[simp] theorem se100 : ((("rename" : Str) = ("lead" : Str))) = False := eq_false (by decide)
@[simp] theorem sb101 : ((("lead" : Str) == ("cache" : Str))) = false := by decide
@[simp] theorem se101 : ((("lead" : Str) = ("cache" : Str))) = False := eq_false (by decide)
@[simp] theorem sb102 : ((("lead" : Str) == ("once" : Str))) = false := by decide
@[simp] theorem se102 : ((("lead" : Str) = ("once" : Str))) = False := eq_false (by decide)
@[simp] theorem sb103 : ((("lead" : Str) == ("stale" : Str))) = false := by decide
@[simp] theorem se103 : ((("lead" : Str) = ("stale" : Str))) = False := eq_false (by decide)
@[simp] theorem sb104 : ((("lead" : Str) == ("limit" : Str))) = false := by decide
@[simp] theorem se104 : ((("lead" : Str) = ("limit" : Str))) = False := eq_false (by decide)
@[simp] theorem sb105 : ((("lead" : Str) == ("depth" : Str))) = false := by decide
@[simp] theorem se105 : ((("lead" : Str) = ("depth" : Str))) = False := eq_false (by decide)
@[simp] theorem sb106 : ((("lead" : Str) == ("guard" : Str))) = false := by decide
@[simp] theorem se106 : ((("lead" : Str) = ("guard" : Str))) = False := eq_false (by decide)
@[simp] theorem sb107 : ((("lead" : Str) == ("breaker" : Str))) = false := by decide
@[simp] theorem se107 : ((("lead" : Str) = ("breaker" : Str))) = False := eq_false (by decide)
@[simp] theorem sb108 : ((("lead" : Str) == ("retry" : Str))) = false := by decide
@[simp] theorem se108 : ((("lead" : Str) = ("retry" : Str))) = False := eq_false (by decide)
@[simp] theorem sb109 : ((("lead" : Str) == ("swallow" : Str))) = false := by decide
@[simp] theorem se109 : ((("lead" : Str) = ("swallow" : Str))) = False := eq_false (by decide)
@[simp] theorem sb110 : ((("lead" : Str) == ("rename" : Str))) = false := by decide
@[simp] theorem se110 : ((("lead" : Str) = ("rename" : Str))) = False := eq_false (by decide)
@[simp] theorem sb111 : ((("enter_cache" : Str) == ("enter_once" : Str))) = false := by decide
@[simp] theorem se111 : ((("enter_cache" : Str) = ("enter_once" : Str))) = False := eq_false (by decide)
@[simp] theorem sb112 : ((("enter_cache" : Str) == ("enter_limit" : Str))) = false := by decide
@[simp] theorem se112 : ((("enter_cache" : Str) = ("enter_limit" : Str))) = False := eq_false (by decide)
@[simp] theorem sb113 : ((("enter_cache" : Str) == ("enter_guard" : Str))) = false := by decide
@[simp] theorem se113 : ((("enter_cache" : Str) = ("enter_guard" : Str))) = False := eq_false (by decide)
@[simp] theorem sb114 : ((("enter_cache" : Str) == ("enter_breaker" : Str))) = false := by decide
@[simp] theorem se114 : ((("enter_cache" : Str) = ("enter_breaker" : Str))) = False := eq_false (by decide)
@[simp] theorem sb115 : ((("enter_cache" : Str) == ("enter_plainly" : Str))) = false := by decide
@[simp] theorem se115 : ((("enter_cache" : Str) = ("enter_plainly" : Str))) = False := eq_false (by decide)
@[simp] theorem sb116 : ((("enter_once" : Str) == ("enter_cache" : Str))) = false := by decide
@[simp] theorem se116 : ((("enter_once" : Str) = ("enter_cache" : Str))) = False := eq_false (by decide)
@[simp] theorem sb117 : ((("enter_once" : Str) == ("enter_limit" : Str))) = false := by decide
@[simp] theorem se117 : ((("enter_once" : Str) = ("enter_limit" : Str))) = False := eq_false (by decide)
@[simp] theorem sb118 : ((("enter_once" : Str) == ("enter_guard" : Str))) = false := by decide
@[simp] theorem se118 : ((("enter_once" : Str) = ("enter_guard" : Str))) = False := eq_false (by decide)
@[simp] theorem sb119 : ((("enter_once" : Str) == ("enter_breaker" : Str))) = false := by decide
@[simp] theorem se119 : ((("enter_once" : Str) = ("enter_breaker" : Str))) = False := eq_false (by decide)
@[simp] theorem sb120 : ((("enter_once" : Str) == ("enter_plainly" : Str))) = false := by decide
@[simp] theorem se120 : ((("enter_once" : Str) = ("enter_plainly" : Str))) = False := eq_false (by decide)
@[simp] theorem sb121 : ((("enter_limit" : Str) == ("enter_cache" : Str))) = false := by decide
@[simp] theorem se121 : ((("enter_limit" : Str) = ("enter_cache" : Str))) = False := eq_false (by decide)
@[simp] theorem sb122 : ((("enter_limit" : Str) == ("enter_once" : Str))) = false := by decide
@[simp] theorem se122 : ((("enter_limit" : Str) = ("enter_once" : Str))) = False := eq_false (by decide)
@[simp] theorem sb123 : ((("enter_limit" : Str) == ("enter_guard" : Str))) = false := by decide
@[simp] theorem se123 : ((("enter_limit" : Str) = ("enter_guard" : Str))) = False := eq_false (by decide)
@[simp] theorem sb124 : ((("enter_limit" : Str) == ("enter_breaker" : Str))) = false := by decide
@[simp] theorem se124 : ((("enter_limit" : Str) = ("enter_breaker" : Str))) = False := eq_false (by decide)
@[simp] theorem sb125 : ((("enter_limit" : Str) == ("enter_plainly" : Str))) = false := by decide
@[simp] theorem se125 : ((("enter_limit" : Str) = ("enter_plainly" : Str))) = False := eq_false (by decide)
@[simp] theorem sb126 : ((("enter_guard" : Str) == ("enter_cache" : Str))) = false := by decide
@[simp] theorem se126 : ((("enter_guard" : Str) = ("enter_cache" : Str))) = False := eq_false (by decide)
@[simp] theorem sb127 : ((("enter_guard" : Str) == ("enter_once" : Str))) = false := by decide
@[simp] theorem se127 : ((("enter_guard" : Str) = ("enter_once" : Str))) = False := eq_false (by decide)
@[simp] theorem sb128 : ((("enter_guard" : Str) == ("enter_limit" : Str))) = false := by decide
@[simp] theorem se128 : ((("enter_guard" : Str) = ("enter_limit" : Str))) = False := eq_false (by decide)
@[simp] theorem sb129 : ((("enter_guard" : Str) == ("enter_breaker" : Str))) = false := by decide
@[simp] theorem se129 : ((("enter_guard" : Str) = ("enter_breaker" : Str))) = False := eq_false (by decide)
@[simp] theorem sb130 : ((("enter_guard" : Str) == ("enter_plainly" : Str))) = false := by decide
@[simp] theorem se130 : ((("enter_guard" : Str) = ("enter_plainly" : Str))) = False := eq_false (by decide)
@[simp] theorem sb131 : ((("enter_breaker" : Str) == ("enter_cache" : Str))) = false := by decide
@[simp] theorem se131 : ((("enter_breaker" : Str) = ("enter_cache" : Str))) = False := eq_false (by decide)
@[simp] theorem sb132 : ((("enter_breaker" : Str) == ("enter_once" : Str))) = false := by decide
@[simp] theorem se132 : ((("enter_breaker" : Str) = ("enter_once" : Str))) = False := eq_false (by decide)
@[simp] theorem sb133 : ((("enter_breaker" : Str) == ("enter_limit" : Str))) = false := by decide
@[simp] theorem se133 : ((("enter_breaker" : Str) = ("enter_limit" : Str))) = False := eq_false (by decide)
@[simp] theorem sb134 : ((("enter_breaker" : Str) == ("enter_guard" : Str))) = false := by decide
@[simp] theorem se134 : ((("enter_breaker" : Str) = ("enter_guard" : Str))) = False := eq_false (by decide)
@[simp] theorem sb135 : ((("enter_breaker" : Str) == ("enter_plainly" : Str))) = false := by decide
@[simp] theorem se135 : ((("enter_breaker" : Str) = ("enter_plainly" : Str))) = False := eq_false (by decide)
@[simp] theorem sb136 : ((("enter_plainly" : Str) == ("enter_cache" : Str))) = false := by decide
@[simp] theorem se136 : ((("enter_plainly" : Str) = ("enter_cache" : Str))) = False := eq_false (by decide)
@[simp] theorem sb137 : ((("enter_plainly" : Str) == ("enter_once" : Str))) = false := by decide
@[simp] theorem se137 : ((("enter_plainly" : Str) = ("enter_once" : Str))) = False := eq_false (by decide)
@[simp] theorem sb138 : ((("enter_plainly" : Str) == ("enter_limit" : Str))) = false := by decide
@[simp] theorem se138 : ((("enter_plainly" : Str) = ("enter_limit" : Str))) = False := eq_false (by decide)
@[simp] theorem sb139 : ((("enter_plainly" : Str) == ("enter_guard" : Str))) = false := by decide
@[simp] theorem se139 : ((("enter_plainly" : Str) = ("enter_guard" : Str))) = False := eq_false (by decide)
@[simp] theorem sb140 : ((("enter_plainly" : Str) == ("enter_breaker" : Str))) = false := by decide
@[simp] theorem se140 : ((("enter_plainly" : Str) = ("enter_breaker" : Str))) = False := eq_false (by decide)
@[simp] theorem sb141 : ((("leave_cache" : Str) == ("leave_once" : Str))) = false := by decide
@[simp] theorem se141 : ((("leave_cache" : Str) = ("leave_once" : Str))) = False := eq_false (by decide)
@[simp] theorem sb142 : ((("leave_cache" : Str) == ("leave_stale" : Str))) = false := by decide
@[simp] theorem se142 : ((("leave_cache" : Str) = ("leave_stale" : Str))) = False := eq_false (by decide)
@[simp] theorem sb143 : ((("leave_cache" : Str) == ("leave_depth" : Str))) = false := by decide
@[simp] theorem se143 : ((("leave_cache" : Str) = ("leave_depth" : Str))) = False := eq_false (by decide)
@[simp] theorem sb144 : ((("leave_cache" : Str) == ("leave_guard" : Str))) = false := by decide
@[simp] theorem se144 : ((("leave_cache" : Str) = ("leave_guard" : Str))) = False := eq_false (by decide)
@[simp] theorem sb145 : ((("leave_cache" : Str) == ("leave_breaker" : Str))) = false := by decide
@[simp] theorem se145 : ((("leave_cache" : Str) = ("leave_breaker" : Str))) = False := eq_false (by decide)
@[simp] theorem sb146 : ((("leave_cache" : Str) == ("leave_swallow" : Str))) = false := by decide
@[simp] theorem se146 : ((("leave_cache" : Str) = ("leave_swallow" : Str))) = False := eq_false (by decide)
@[simp] theorem sb147 : ((("leave_cache" : Str) == ("leave_rename" : Str))) = false := by decide
@[simp] theorem se147 : ((("leave_cache" : Str) = ("leave_rename" : Str))) = False := eq_false (by decide)
@[simp] theorem sb148 : ((("leave_cache" : Str) == ("leave_plainly" : Str))) = false := by decide
@[simp] theorem se148 : ((("leave_cache" : Str) = ("leave_plainly" : Str))) = False := eq_false (by decide)
@[simp] theorem sb149 : ((("leave_once" : Str) == ("leave_cache" : Str))) = false := by decide
@[simp] theorem se149 : ((("leave_once" : Str) = ("leave_cache" : Str))) = False := eq_false (by decide)
@[simp] theorem sb150 : ((("leave_once" : Str) == ("leave_stale" : Str))) = false := by decide
@[simp] theorem se150 : ((("leave_once" : Str) = ("leave_stale" : Str))) = False := eq_false (by decide)
@[simp] theorem sb151 : ((("leave_once" : Str) == ("leave_depth" : Str))) = false := by decide
@[simp] theorem se151 : ((("leave_once" : Str) = ("leave_depth" : Str))) = False := eq_false (by decide)
@[simp] theorem sb152 : ((("leave_once" : Str) == ("leave_guard" : Str))) = false := by decide
@[simp] theorem se152 : ((("leave_once" : Str) = ("leave_guard" : Str))) = False := eq_false (by decide)
@[simp] theorem sb153 : ((("leave_once" : Str) == ("leave_breaker" : Str))) = false := by decide
@[simp] theorem se153 : ((("leave_once" : Str) = ("leave_breaker" : Str))) = False := eq_false (by decide)
@[simp] theorem sb154 : ((("leave_once" : Str) == ("leave_swallow" : Str))) = false := by decide
@[simp] theorem se154 : ((("leave_once" : Str) = ("leave_swallow" : Str))) = False := eq_false (by decide)
@[simp] theorem sb155 : ((("leave_once" : Str) == ("leave_rename" : Str))) = false := by decide
@[simp] theorem se155 : ((("leave_once" : Str) = ("leave_rename" : Str))) = False := eq_false (by decide)
@[simp] theorem sb156 : ((("leave_once" : Str) == ("leave_plainly" : Str))) = false := by decide
@[simp] theorem se156 : ((("leave_once" : Str) = ("leave_plainly" : Str))) = False := eq_false (by decide)
@[simp] theorem sb157 : ((("leave_stale" : Str) == ("leave_cache" : Str))) = false := by decide
@[simp] theorem se157 : ((("leave_stale" : Str) = ("leave_cache" : Str))) = False := eq_false (by decide)
@[simp] theorem sb158 : ((("leave_stale" : Str) == ("leave_once" : Str))) = false := by decide
@[simp] theorem se158 : ((("leave_stale" : Str) = ("leave_once" : Str))) = False := eq_false (by decide)
@[simp] theorem sb159 : ((("leave_stale" : Str) == ("leave_depth" : Str))) = false := by decide
@[simp] theorem se159 : ((("leave_stale" : Str) = ("leave_depth" : Str))) = False := eq_false (by decide)
@[simp] theorem sb160 : ((("leave_stale" : Str) == ("leave_guard" : Str))) = false := by decide
@[simp] theorem se160 : ((("leave_stale" : Str) = ("leave_guard" : Str))) = False := eq_false (by decide)
@[simp] theorem sb161 : ((("leave_stale" : Str) == ("leave_breaker" : Str))) = false := by decide
@[simp] theorem se161 : ((("leave_stale" : Str) = ("leave_breaker" : Str))) = False := eq_false (by decide)
@[simp] theorem sb162 : ((("leave_stale" : Str) == ("leave_swallow" : Str))) = false := by decide
@[simp] theorem se162 : ((("leave_stale" : Str) = ("leave_swallow" : Str))) = False := eq_false (by decide)
@[simp] theorem sb163 : ((("leave_stale" : Str) == ("leave_rename" : Str))) = false := by decide
@[simp] theorem se163 : ((("leave_stale" : Str) = ("leave_rename" : Str))) = False := eq_false (by decide)
@[simp] theorem sb164 : ((("leave_stale" : Str) == ("leave_plainly" : Str))) = false := by decide
@[simp] theorem se164 : ((("leave_stale" : Str) = ("leave_plainly" : Str))) = False := eq_false (by decide)
@[simp] theorem sb165 : ((("leave_depth" : Str) == ("leave_cache" : Str))) = false := by decide
@[simp] theorem se165 : ((("leave_depth" : Str) = ("leave_cache" : Str))) = False := eq_false (by decide)
@[simp] theorem sb166 : ((("leave_depth" : Str) == ("leave_once" : Str))) = false := by decide
@[simp] theorem se166 : ((("leave_depth" : Str) = ("leave_once" : Str))) = False := eq_false (by decide)
@[simp] theorem sb167 : ((("leave_depth" : Str) == ("leave_stale" : Str))) = false := by decide
@[simp] theorem se167 : ((("leave_depth" : Str) = ("leave_stale" : Str))) = False := eq_false (by decide)
@[simp] theorem sb168 : ((("leave_depth" : Str) == ("leave_guard" : Str))) = false := by decide
@[simp] theorem se168 : ((("leave_depth" : Str) = ("leave_guard" : Str))) = False := eq_false (by decide)
@[simp] theorem sb169 : ((("leave_depth" : Str) == ("leave_breaker" : Str))) = false := by decide
@[simp] theorem se169 : ((("leave_depth" : Str) = ("leave_breaker" : Str))) = False := eq_false (by decide)
@[simp] theorem sb170 : ((("leave_depth" : Str) == ("leave_swallow" : Str))) = false := by decide
@[simp] theorem se170 : ((("leave_depth" : Str) = ("leave_swallow" : Str))) = False := eq_false (by decide)
@[simp] theorem sb171 : ((("leave_depth" : Str) == ("leave_rename" : Str))) = false := by decide
@[simp] theorem se171 : ((("leave_depth" : Str) = ("leave_rename" : Str))) = False := eq_false (by decide)
@[simp] theorem sb172 : ((("leave_depth" : Str) == ("leave_plainly" : Str))) = false := by decide
@[simp] theorem se172 : ((("leave_depth" : Str) = ("leave_plainly" : Str))) = False := eq_false (by decide)
@[simp] theorem sb173 : ((("leave_guard" : Str) == ("leave_cache" : Str))) = false := by decide
@[simp] theorem se173 : ((("leave_guard" : Str) = ("leave_cache" : Str))) = False := eq_false (by decide)
@[simp] theorem sb174 : ((("leave_guard" : Str) == ("leave_once" : Str))) = false := by decide
@[simp] theorem se174 : ((("leave_guard" : Str) = ("leave_once" : Str))) = False := eq_false (by decide)
@[simp] theorem sb175 : ((("leave_guard" : Str) == ("leave_stale" : Str))) = false := by decide
@[simp] theorem se175 : ((("leave_guard" : Str) = ("leave_stale" : Str))) = False := eq_false (by decide)
@[simp] theorem sb176 : ((("leave_guard" : Str) == ("leave_depth" : Str))) = false := by decide
@[simp] theorem se176 : ((("leave_guard" : Str) = ("leave_depth" : Str))) = False := eq_false (by decide)
@[simp] theorem sb177 : ((("leave_guard" : Str) == ("leave_breaker" : Str))) = false := by decide
@[simp] theorem se177 : ((("leave_guard" : Str) = ("leave_breaker" : Str))) = False := eq_false (by decide)
@[simp] theorem sb178 : ((("leave_guard" : Str) == ("leave_swallow" : Str))) = false := by decide
@[simp] theorem se178 : ((("leave_guard" : Str) = ("leave_swallow" : Str))) = False := eq_false (by decide)
@[simp] theorem sb179 : ((("leave_guard" : Str) == ("leave_rename" : Str))) = false := by decide
@[simp] theorem se179 : ((("leave_guard" : Str) = ("leave_rename" : Str))) = False := eq_false (by decide)
@[simp] theorem sb180 : ((("leave_guard" : Str) == ("leave_plainly" : Str))) = false := by decide
@[simp] theorem se180 : ((("leave_guard" : Str) = ("leave_plainly" : Str))) = False := eq_false (by decide)
@[simp] theorem sb181 : ((("leave_breaker" : Str) == ("leave_cache" : Str))) = false := by decide
@[simp] theorem se181 : ((("leave_breaker" : Str) = ("leave_cache" : Str))) = False := eq_false (by decide)
@[simp] theorem sb182 : ((("leave_breaker" : Str) == ("leave_once" : Str))) = false := by decide
@[simp] theorem se182 : ((("leave_breaker" : Str) = ("leave_once" : Str))) = False := eq_false (by decide)
@[simp] theorem sb183 : ((("leave_breaker" : Str) == ("leave_stale" : Str))) = false := by decide
@[simp] theorem se183 : ((("leave_breaker" : Str) = ("leave_stale" : Str))) = False := eq_false (by decide)
@[simp] theorem sb184 : ((("leave_breaker" : Str) == ("leave_depth" : Str))) = false := by decide
@[simp] theorem se184 : ((("leave_breaker" : Str) = ("leave_depth" : Str))) = False := eq_false (by decide)
@[simp] theorem sb185 : ((("leave_breaker" : Str) == ("leave_guard" : Str))) = false := by decide
@[simp] theorem se185 : ((("leave_breaker" : Str) = ("leave_guard" : Str))) = False := eq_false (by decide)
@[simp] theorem sb186 : ((("leave_breaker" : Str) == ("leave_swallow" : Str))) = false := by decide
@[simp] theorem se186 : ((("leave_breaker" : Str) = ("leave_swallow" : Str))) = False := eq_false (by decide)
@[simp] theorem sb187 : ((("leave_breaker" : Str) == ("leave_rename" : Str))) = false := by decide
@[simp] theorem se187 : ((("leave_breaker" : Str) = ("leave_rename" : Str))) = False := eq_false (by decide)
@[simp] theorem sb188 : ((("leave_breaker" : Str) == ("leave_plainly" : Str))) = false := by decide
@[simp] theorem se188 : ((("leave_breaker" : Str) = ("leave_plainly" : Str))) = False := eq_false (by decide)
@[simp] theorem sb189 : ((("leave_swallow" : Str) == ("leave_cache" : Str))) = false := by decide
@[simp] theorem se189 : ((("leave_swallow" : Str) = ("leave_cache" : Str))) = False := eq_false (by decide)
@[simp] theorem sb190 : ((("leave_swallow" : Str) == ("leave_once" : Str))) = false := by decide
@[simp] theorem se190 : ((("leave_swallow" : Str) = ("leave_once" : Str))) = False := eq_false (by decide)
@[simp] theorem sb191 : ((("leave_swallow" : Str) == ("leave_stale" : Str))) = false := by decide
@[simp] theorem se191 : ((("leave_swallow" : Str) = ("leave_stale" : Str))) = False := eq_false (by decide)
@[simp] theorem sb192 : ((("leave_swallow" : Str) == ("leave_depth" : Str))) = false := by decide
@[simp] theorem se192 : ((("leave_swallow" : Str) = ("leave_depth" : Str))) = False := eq_false (by decide)
@[simp] theorem sb193 : ((("leave_swallow" : Str) == ("leave_guard" : Str))) = false := by decide
@[simp] theorem se193 : ((("leave_swallow" : Str) = ("leave_guard" : Str))) = False := eq_false (by decide)
@[simp] theorem sb194 : ((("leave_swallow" : Str) == ("leave_breaker" : Str))) = false := by decide
@[simp] theorem se194 : ((("leave_swallow" : Str) = ("leave_breaker" : Str))) = False := eq_false (by decide)
@[simp] theorem sb195 : ((("leave_swallow" : Str) == ("leave_rename" : Str))) = false := by decide
@[simp] theorem se195 : ((("leave_swallow" : Str) = ("leave_rename" : Str))) = False := eq_false (by decide)
@[simp] theorem sb196 : ((("leave_swallow" : Str) == ("leave_plainly" : Str))) = false := by decide
@[simp] theorem se196 : ((("leave_swallow" : Str) = ("leave_plainly" : Str))) = False := eq_false (by decide)
@[simp] theorem sb197 : ((("leave_rename" : Str) == ("leave_cache" : Str))) = false := by decide
@[simp] theorem se197 : ((("leave_rename" : Str) = ("leave_cache" : Str))) = False := eq_false (by decide)
@[simp] theorem sb198 : ((("leave_rename" : Str) == ("leave_once" : Str))) = false := by decide
@[simp] theorem se198 : ((("leave_rename" : Str) = ("leave_once" : Str))) = False := eq_false (by decide)
@[simp] theorem sb199 : ((("leave_rename" : Str) == ("leave_stale" : Str))) = false := by decide
@[simp] theorem se199 : ((("leave_rename" : Str) = ("leave_stale" : Str))) = False := eq_false (by decide)
@[simp] theorem sb200 : ((("leave_rename" : Str) == ("leave_depth" : Str))) = false := by decide
@[simp] theorem se200 : ((("leave_rename" : Str) = ("leave_depth" : Str))) = False := eq_false (by decide)
@[simp] theorem sb201 : ((("leave_rename" : Str) == ("leave_guard" : Str))) = false := by decide
@[simp] theorem se201 : ((("leave_rename" : Str) = ("leave_guard" : Str))) = False := eq_false (by decide)
@[simp] theorem sb202 : ((("leave_rename" : Str) == ("leave_breaker" : Str))) = false := by decide
@[simp] theorem se202 : ((("leave_rename" : Str) = ("leave_breaker" : Str))) = False := eq_false (by decide)
@[simp] theorem sb203 : ((("leave_rename" : Str) == ("leave_swallow" : Str))) = false := by decide
@[simp] theorem se203 : ((("leave_rename" : Str) = ("leave_swallow" : Str))) = False := eq_false (by decide)
@[simp] theorem sb204 : ((("leave_rename" : Str) == ("leave_plainly" : Str))) = false := by decide
@[simp] theorem se204 : ((("leave_rename" : Str) = ("leave_plainly" : Str))) = False := eq_false (by decide)
@[simp] theorem sb205 : ((("leave_plainly" : Str) == ("leave_cache" : Str))) = false := by decide
@[simp] theorem se205 : ((("leave_plainly" : Str) = ("leave_cache" : Str))) = False := eq_false (by decide)
@[simp] theorem sb206 : ((("leave_plainly" : Str) == ("leave_once" : Str))) = false := by decide
@[simp] theorem se206 : ((("leave_plainly" : Str) = ("leave_once" : Str))) = False := eq_false (by decide)
@[simp] theorem sb207 : ((("leave_plainly" : Str) == ("leave_stale" : Str))) = false := by decide
@[simp] theorem se207 : ((("leave_plainly" : Str) = ("leave_stale" : Str))) = False := eq_false (by decide)
@[simp] theorem sb208 : ((("leave_plainly" : Str) == ("leave_depth" : Str))) = false := by decide
@[simp] theorem se208 : ((("leave_plainly" : Str) = ("leave_depth" : Str))) = False := eq_false (by decide)
@[simp] theorem sb209 : ((("leave_plainly" : Str) == ("leave_guard" : Str))) = false := by decide
@[simp] theorem se209 : ((("leave_plainly" : Str) = ("leave_guard" : Str))) = False := eq_false (by decide)
@[simp] theorem sb210 : ((("leave_plainly" : Str) == ("leave_breaker" : Str))) = false := by decide
@[simp] theorem se210 : ((("leave_plainly" : Str) = ("leave_breaker" : Str))) = False := eq_false (by decide)
@[simp] theorem sb211 : ((("leave_plainly" : Str) == ("leave_swallow" : Str))) = false := by decide
@[simp] theorem se211 : ((("leave_plainly" : Str) = ("leave_swallow" : Str))) = False := eq_false (by decide)
@[simp] theorem sb212 : ((("leave_plainly" : Str) == ("leave_rename" : Str))) = false := by decide
@[simp] theorem se212 : ((("leave_plainly" : Str) = ("leave_rename" : Str))) = False := eq_false (by decide)
@[simp] theorem sb213 : ((("Machine" : Str) == ("Stack" : Str))) = false := by decide
@[simp] theorem se213 : ((("Machine" : Str) = ("Stack" : Str))) = False := eq_false (by decide)
@[simp] theorem sb214 : ((("Machine" : Str) == ("Walk" : Str))) = false := by decide
@[simp] theorem se214 : ((("Machine" : Str) = ("Walk" : Str))) = False := eq_false (by decide)
@[simp] theorem sb215 : ((("Machine" : Str) == ("Wrapped" : Str))) = false := by decide
@[simp] theorem se215 : ((("Machine" : Str) = ("Wrapped" : Str))) = False := eq_false (by decide)
@[simp] theorem sb216 : ((("Stack" : Str) == ("Machine" : Str))) = false := by decide
@[simp] theorem se216 : ((("Stack" : Str) = ("Machine" : Str))) = False := eq_false (by decide)
@[simp] theorem sb217 : ((("Stack" : Str) == ("Walk" : Str))) = false := by decide
@[simp] theorem se217 : ((("Stack" : Str) = ("Walk" : Str))) = False := eq_false (by decide)
@[simp] theorem sb218 : ((("Stack" : Str) == ("Wrapped" : Str))) = false := by decide
@[simp] theorem se218 : ((("Stack" : Str) = ("Wrapped" : Str))) = False := eq_false (by decide)
@[simp] theorem sb219 : ((("Walk" : Str) == ("Machine" : Str))) = false := by decide
@[simp] theorem se219 : ((("Walk" : Str) = ("Machine" : Str))) = False := eq_false (by decide)
@[simp] theorem sb220 : ((("Walk" : Str) == ("Stack" : Str))) = false := by decide
@[simp] theorem se220 : ((("Walk" : Str) = ("Stack" : Str))) = False := eq_false (by decide)
@[simp] theorem sb221 : ((("Walk" : Str) == ("Wrapped" : Str))) = false := by decide
@[simp] theorem se221 : ((("Walk" : Str) = ("Wrapped" : Str))) = False := eq_false (by decide)
@[simp] theorem sb222 : ((("Wrapped" : Str) == ("Machine" : Str))) = false := by decide
@[simp] theorem se222 : ((("Wrapped" : Str) = ("Machine" : Str))) = False := eq_false (by decide)
@[simp] theorem sb223 : ((("Wrapped" : Str) == ("Stack" : Str))) = false := by decide
@[simp] theorem se223 : ((("Wrapped" : Str) = ("Stack" : Str))) = False := eq_false (by decide)
@[simp] theorem sb224 : ((("Wrapped" : Str) == ("Walk" : Str))) = false := by decide
@[simp] theorem se224 : ((("Wrapped" : Str) = ("Walk" : Str))) = False := eq_false (by decide)
@[simp] theorem sb225 : ((("own_stack" : Str) == ("kept" : Str))) = false := by decide
@[simp] theorem se225 : ((("own_stack" : Str) = ("kept" : Str))) = False := eq_false (by decide)
@[simp] theorem sb226 : ((("own_stack" : Str) == ("open_calls" : Str))) = false := by decide
@[simp] theorem se226 : ((("own_stack" : Str) = ("open_calls" : Str))) = False := eq_false (by decide)
@[simp] theorem sb227 : ((("own_stack" : Str) == ("events" : Str))) = false := by decide
@[simp] theorem se227 : ((("own_stack" : Str) = ("events" : Str))) = False := eq_false (by decide)
@[simp] theorem sb228 : ((("own_stack" : Str) == ("path" : Str))) = false := by decide
@[simp] theorem se228 : ((("own_stack" : Str) = ("path" : Str))) = False := eq_false (by decide)
@[simp] theorem sb229 : ((("kept" : Str) == ("own_stack" : Str))) = false := by decide
@[simp] theorem se229 : ((("kept" : Str) = ("own_stack" : Str))) = False := eq_false (by decide)
@[simp] theorem sb230 : ((("kept" : Str) == ("open_calls" : Str))) = false := by decide
@[simp] theorem se230 : ((("kept" : Str) = ("open_calls" : Str))) = False := eq_false (by decide)
@[simp] theorem sb231 : ((("kept" : Str) == ("events" : Str))) = false := by decide
@[simp] theorem se231 : ((("kept" : Str) = ("events" : Str))) = False := eq_false (by decide)
@[simp] theorem sb232 : ((("kept" : Str) == ("path" : Str))) = false := by decide
@[simp] theorem se232 : ((("kept" : Str) = ("path" : Str))) = False := eq_false (by decide)
@[simp] theorem sb233 : ((("open_calls" : Str) == ("own_stack" : Str))) = false := by decide
@[simp] theorem se233 : ((("open_calls" : Str) = ("own_stack" : Str))) = False := eq_false (by decide)
@[simp] theorem sb234 : ((("open_calls" : Str) == ("kept" : Str))) = false := by decide
@[simp] theorem se234 : ((("open_calls" : Str) = ("kept" : Str))) = False := eq_false (by decide)
@[simp] theorem sb235 : ((("open_calls" : Str) == ("events" : Str))) = false := by decide
@[simp] theorem se235 : ((("open_calls" : Str) = ("events" : Str))) = False := eq_false (by decide)
@[simp] theorem sb236 : ((("open_calls" : Str) == ("path" : Str))) = false := by decide
@[simp] theorem se236 : ((("open_calls" : Str) = ("path" : Str))) = False := eq_false (by decide)
@[simp] theorem sb237 : ((("events" : Str) == ("own_stack" : Str))) = false := by decide
@[simp] theorem se237 : ((("events" : Str) = ("own_stack" : Str))) = False := eq_false (by decide)
@[simp] theorem sb238 : ((("events" : Str) == ("kept" : Str))) = false := by decide
@[simp] theorem se238 : ((("events" : Str) = ("kept" : Str))) = False := eq_false (by decide)
@[simp] theorem sb239 : ((("events" : Str) == ("open_calls" : Str))) = false := by decide
@[simp] theorem se239 : ((("events" : Str) = ("open_calls" : Str))) = False := eq_false (by decide)
@[simp] theorem sb240 : ((("events" : Str) == ("path" : Str))) = false := by decide
@[simp] theorem se240 : ((("events" : Str) = ("path" : Str))) = False := eq_false (by decide)
@[simp] theorem sb241 : ((("path" : Str) == ("own_stack" : Str))) = false := by decide
@[simp] theorem se241 : ((("path" : Str) = ("own_stack" : Str))) = False := eq_false (by decide)
@[simp] theorem sb242 : ((("path" : Str) == ("kept" : Str))) = false := by decide
@[simp] theorem se242 : ((("path" : Str) = ("kept" : Str))) = False := eq_false (by decide)
@[simp] theorem sb243 : ((("path" : Str) == ("open_calls" : Str))) = false := by decide
@[simp] theorem se243 : ((("path" : Str) = ("open_calls" : Str))) = False := eq_false (by decide)
@[simp] theorem sb244 : ((("path" : Str) == ("events" : Str))) = false := by decide
@[simp] theorem se244 : ((("path" : Str) = ("events" : Str))) = False := eq_false (by decide)
@[simp] theorem sb245 : ((("rows" : Str) == ("kept" : Str))) = false := by decide
@[simp] theorem se245 : ((("rows" : Str) = ("kept" : Str))) = False := eq_false (by decide)
@[simp] theorem sb246 : ((("rows" : Str) == ("frame" : Str))) = false := by decide
@[simp] theorem se246 : ((("rows" : Str) = ("frame" : Str))) = False := eq_false (by decide)
@[simp] theorem sb247 : ((("rows" : Str) == ("path" : Str))) = false := by decide
@[simp] theorem se247 : ((("rows" : Str) = ("path" : Str))) = False := eq_false (by decide)
@[simp] theorem sb248 : ((("kept" : Str) == ("rows" : Str))) = false := by decide
@[simp] theorem se248 : ((("kept" : Str) = ("rows" : Str))) = False := eq_false (by decide)
@[simp] theorem sb249 : ((("kept" : Str) == ("frame" : Str))) = false := by decide
@[simp] theorem se249 : ((("kept" : Str) = ("frame" : Str))) = False := eq_false (by decide)
@[simp] theorem sb250 : ((("frame" : Str) == ("rows" : Str))) = false := by decide
@[simp] theorem se250 : ((("frame" : Str) = ("rows" : Str))) = False := eq_false (by decide)
@[simp] theorem sb251 : ((("frame" : Str) == ("kept" : Str))) = false := by decide
@[simp] theorem se251 : ((("frame" : Str) = ("kept" : Str))) = False := eq_false (by decide)
@[simp] theorem sb252 : ((("frame" : Str) == ("path" : Str))) = false := by decide
@[simp] theorem se252 : ((("frame" : Str) = ("path" : Str))) = False := eq_false (by decide)
@[simp] theorem sb253 : ((("path" : Str) == ("rows" : Str))) = false := by decide
@[simp] theorem se253 : ((("path" : Str) = ("rows" : Str))) = False := eq_false (by decide)
@[simp] theorem sb254 : ((("path" : Str) == ("frame" : Str))) = false := by decide
@[simp] theorem se254 : ((("path" : Str) = ("frame" : Str))) = False := eq_false (by decide)
@[simp] theorem sb255 : ((("rows" : Str) == ("shape" : Str))) = false := by decide
@[simp] theorem se255 : ((("rows" : Str) = ("shape" : Str))) = False := eq_false (by decide)
@[simp] theorem sb256 : ((("shape" : Str) == ("rows" : Str))) = false := by decide
@[simp] theorem se256 : ((("shape" : Str) = ("rows" : Str))) = False := eq_false (by decide)
@[simp] theorem sb257 : ((("come_in" : Str) == ("come_back" : Str))) = false := by decide
@[simp] theorem se257 : ((("come_in" : Str) = ("come_back" : Str))) = False := eq_false (by decide)
@[simp] theorem sb258 : ((("come_in" : Str) == ("go_on" : Str))) = false := by decide
@[simp] theorem se258 : ((("come_in" : Str) = ("go_on" : Str))) = False := eq_false (by decide)
@[simp] theorem sb259 : ((("come_in" : Str) == ("rows" : Str))) = false := by decide
@[simp] theorem se259 : ((("come_in" : Str) = ("rows" : Str))) = False := eq_false (by decide)
@[simp] theorem sb260 : ((("come_in" : Str) == ("kept" : Str))) = false := by decide
@[simp] theorem se260 : ((("come_in" : Str) = ("kept" : Str))) = False := eq_false (by decide)
@[simp] theorem sb261 : ((("come_in" : Str) == ("frame" : Str))) = false := by decide
@[simp] theorem se261 : ((("come_in" : Str) = ("frame" : Str))) = False := eq_false (by decide)
@[simp] theorem sb262 : ((("come_in" : Str) == ("path" : Str))) = false := by decide
@[simp] theorem se262 : ((("come_in" : Str) = ("path" : Str))) = False := eq_false (by decide)
@[simp] theorem sb263 : ((("come_back" : Str) == ("come_in" : Str))) = false := by decide
@[simp] theorem se263 : ((("come_back" : Str) = ("come_in" : Str))) = False := eq_false (by decide)
@[simp] theorem sb264 : ((("come_back" : Str) == ("go_on" : Str))) = false := by decide
@[simp] theorem se264 : ((("come_back" : Str) = ("go_on" : Str))) = False := eq_false (by decide)
@[simp] theorem sb265 : ((("come_back" : Str) == ("rows" : Str))) = false := by decide
@[simp] theorem se265 : ((("come_back" : Str) = ("rows" : Str))) = False := eq_false (by decide)
@[simp] theorem sb266 : ((("come_back" : Str) == ("kept" : Str))) = false := by decide
@[simp] theorem se266 : ((("come_back" : Str) = ("kept" : Str))) = False := eq_false (by decide)
@[simp] theorem sb267 : ((("come_back" : Str) == ("frame" : Str))) = false := by decide
@[simp] theorem se267 : ((("come_back" : Str) = ("frame" : Str))) = False := eq_false (by decide)
@[simp] theorem sb268 : ((("come_back" : Str) == ("path" : Str))) = false := by decide
@[simp] theorem se268 : ((("come_back" : Str) = ("path" : Str))) = False := eq_false (by decide)
@[simp] theorem sb269 : ((("go_on" : Str) == ("come_in" : Str))) = false := by decide
@[simp] theorem se269 : ((("go_on" : Str) = ("come_in" : Str))) = False := eq_false (by decide)
@[simp] theorem sb270 : ((("go_on" : Str) == ("come_back" : Str))) = false := by decide
@[simp] theorem se270 : ((("go_on" : Str) = ("come_back" : Str))) = False := eq_false (by decide)
@[simp] theorem sb271 : ((("go_on" : Str) == ("rows" : Str))) = false := by decide
@[simp] theorem se271 : ((("go_on" : Str) = ("rows" : Str))) = False := eq_false (by decide)
@[simp] theorem sb272 : ((("go_on" : Str) == ("kept" : Str))) = false := by decide
@[simp] theorem se272 : ((("go_on" : Str) = ("kept" : Str))) = False := eq_false (by decide)
@[simp] theorem sb273 : ((("go_on" : Str) == ("frame" : Str))) = false := by decide
@[simp] theorem se273 : ((("go_on" : Str) = ("frame" : Str))) = False := eq_false (by decide)
@[simp] theorem sb274 : ((("go_on" : Str) == ("path" : Str))) = false := by decide
@[simp] theorem se274 : ((("go_on" : Str) = ("path" : Str))) = False := eq_false (by decide)
@[simp] theorem sb275 : ((("rows" : Str) == ("come_in" : Str))) = false := by decide
@[simp] theorem se275 : ((("rows" : Str) = ("come_in" : Str))) = False := eq_false (by decide)
@[simp] theorem sb276 : ((("rows" : Str) == ("come_back" : Str))) = false := by decide
@[simp] theorem se276 : ((("rows" : Str) = ("come_back" : Str))) = False := eq_false (by decide)
@[simp] theorem sb277 : ((("rows" : Str) == ("go_on" : Str))) = false := by decide
@[simp] theorem se277 : ((("rows" : Str) = ("go_on" : Str))) = False := eq_false (by decide)
@[simp] theorem sb278 : ((("kept" : Str) == ("come_in" : Str))) = false := by decide
@[simp] theorem se278 : ((("kept" : Str) = ("come_in" : Str))) = False := eq_false (by decide)
@[simp] theorem sb279 : ((("kept" : Str) == ("come_back" : Str))) = false := by decide
@[simp] theorem se279 : ((("kept" : Str) = ("come_back" : Str))) = False := eq_false (by decide)
@[simp] theorem sb280 : ((("kept" : Str) == ("go_on" : Str))) = false := by decide
@[simp] theorem se280 : ((("kept" : Str) = ("go_on" : Str))) = False := eq_false (by decide)
@[simp] theorem sb281 : ((("frame" : Str) == ("come_in" : Str))) = false := by decide
@[simp] theorem se281 : ((("frame" : Str) = ("come_in" : Str))) = False := eq_false (by decide)
@[simp] theorem sb282 : ((("frame" : Str) == ("come_back" : Str))) = false := by decide
@[simp] theorem se282 : ((("frame" : Str) = ("come_back" : Str))) = False := eq_false (by decide)
@[simp] theorem sb283 : ((("frame" : Str) == ("go_on" : Str))) = false := by decide
@[simp] theorem se283 : ((("frame" : Str) = ("go_on" : Str))) = False := eq_false (by decide)
@[simp] theorem sb284 : ((("path" : Str) == ("come_in" : Str))) = false := by decide
@[simp] theorem se284 : ((("path" : Str) = ("come_in" : Str))) = False := eq_false (by decide)
@[simp] theorem sb285 : ((("path" : Str) == ("come_back" : Str))) = false := by decide
@[simp] theorem se285 : ((("path" : Str) = ("come_back" : Str))) = False := eq_false (by decide)
@[simp] theorem sb286 : ((("path" : Str) == ("go_on" : Str))) = false := by decide
@[simp] theorem se286 : ((("path" : Str) = ("go_on" : Str))) = False := eq_false (by decide)
@[simp] theorem sb287 : ((("done" : Str) == ("call" : Str))) = false := by decide
@[simp] theorem se287 : ((("done" : Str) = ("call" : Str))) = False := eq_false (by decide)
@[simp] theorem sb288 : ((("done" : Str) == ("answer" : Str))) = false := by decide
@[simp] theorem se288 : ((("done" : Str) = ("answer" : Str))) = False := eq_false (by decide)
@[simp] theorem sb289 : ((("done" : Str) == ("fail" : Str))) = false := by decide
@[simp] theorem se289 : ((("done" : Str) = ("fail" : Str))) = False := eq_false (by decide)
@[simp] theorem sb290 : ((("done" : Str) == ("come_out" : Str))) = false := by decide
@[simp] theorem se290 : ((("done" : Str) = ("come_out" : Str))) = False := eq_false (by decide)
@[simp] theorem sb291 : ((("done" : Str) == ("play" : Str))) = false := by decide
@[simp] theorem se291 : ((("done" : Str) = ("play" : Str))) = False := eq_false (by decide)
@[simp] theorem sb292 : ((("done" : Str) == ("twin" : Str))) = false := by decide
@[simp] theorem se292 : ((("done" : Str) = ("twin" : Str))) = False := eq_false (by decide)
@[simp] theorem sb293 : ((("done" : Str) == ("stack_of" : Str))) = false := by decide
@[simp] theorem se293 : ((("done" : Str) = ("stack_of" : Str))) = False := eq_false (by decide)
@[simp] theorem sb294 : ((("done" : Str) == ("own_stack" : Str))) = false := by decide
@[simp] theorem se294 : ((("done" : Str) = ("own_stack" : Str))) = False := eq_false (by decide)
@[simp] theorem sb295 : ((("done" : Str) == ("kept" : Str))) = false := by decide
@[simp] theorem se295 : ((("done" : Str) = ("kept" : Str))) = False := eq_false (by decide)
@[simp] theorem sb296 : ((("done" : Str) == ("open_calls" : Str))) = false := by decide
@[simp] theorem se296 : ((("done" : Str) = ("open_calls" : Str))) = False := eq_false (by decide)
@[simp] theorem sb297 : ((("done" : Str) == ("events" : Str))) = false := by decide
@[simp] theorem se297 : ((("done" : Str) = ("events" : Str))) = False := eq_false (by decide)
@[simp] theorem sb298 : ((("done" : Str) == ("path" : Str))) = false := by decide
@[simp] theorem se298 : ((("done" : Str) = ("path" : Str))) = False := eq_false (by decide)
@[simp] theorem sb299 : ((("call" : Str) == ("done" : Str))) = false := by decide
@[simp] theorem se299 : ((("call" : Str) = ("done" : Str))) = False := eq_false (by decide)
@[simp] theorem sb300 : ((("call" : Str) == ("answer" : Str))) = false := by decide
@[simp] theorem se300 : ((("call" : Str) = ("answer" : Str))) = False := eq_false (by decide)
@[simp] theorem sb301 : ((("call" : Str) == ("fail" : Str))) = false := by decide
@[simp] theorem se301 : ((("call" : Str) = ("fail" : Str))) = False := eq_false (by decide)
@[simp] theorem sb302 : ((("call" : Str) == ("come_out" : Str))) = false := by decide
@[simp] theorem se302 : ((("call" : Str) = ("come_out" : Str))) = False := eq_false (by decide)
@[simp] theorem sb303 : ((("call" : Str) == ("play" : Str))) = false := by decide
@[simp] theorem se303 : ((("call" : Str) = ("play" : Str))) = False := eq_false (by decide)
@[simp] theorem sb304 : ((("call" : Str) == ("twin" : Str))) = false := by decide
@[simp] theorem se304 : ((("call" : Str) = ("twin" : Str))) = False := eq_false (by decide)
@[simp] theorem sb305 : ((("call" : Str) == ("stack_of" : Str))) = false := by decide
@[simp] theorem se305 : ((("call" : Str) = ("stack_of" : Str))) = False := eq_false (by decide)
@[simp] theorem sb306 : ((("call" : Str) == ("own_stack" : Str))) = false := by decide
@[simp] theorem se306 : ((("call" : Str) = ("own_stack" : Str))) = False := eq_false (by decide)
@[simp] theorem sb307 : ((("call" : Str) == ("kept" : Str))) = false := by decide
@[simp] theorem se307 : ((("call" : Str) = ("kept" : Str))) = False := eq_false (by decide)
@[simp] theorem sb308 : ((("call" : Str) == ("open_calls" : Str))) = false := by decide
@[simp] theorem se308 : ((("call" : Str) = ("open_calls" : Str))) = False := eq_false (by decide)
@[simp] theorem sb309 : ((("call" : Str) == ("events" : Str))) = false := by decide
@[simp] theorem se309 : ((("call" : Str) = ("events" : Str))) = False := eq_false (by decide)
@[simp] theorem sb310 : ((("call" : Str) == ("path" : Str))) = false := by decide
@[simp] theorem se310 : ((("call" : Str) = ("path" : Str))) = False := eq_false (by decide)
@[simp] theorem sb311 : ((("answer" : Str) == ("done" : Str))) = false := by decide
@[simp] theorem se311 : ((("answer" : Str) = ("done" : Str))) = False := eq_false (by decide)
@[simp] theorem sb312 : ((("answer" : Str) == ("call" : Str))) = false := by decide
@[simp] theorem se312 : ((("answer" : Str) = ("call" : Str))) = False := eq_false (by decide)
@[simp] theorem sb313 : ((("answer" : Str) == ("fail" : Str))) = false := by decide
@[simp] theorem se313 : ((("answer" : Str) = ("fail" : Str))) = False := eq_false (by decide)
@[simp] theorem sb314 : ((("answer" : Str) == ("come_out" : Str))) = false := by decide
@[simp] theorem se314 : ((("answer" : Str) = ("come_out" : Str))) = False := eq_false (by decide)
@[simp] theorem sb315 : ((("answer" : Str) == ("play" : Str))) = false := by decide
@[simp] theorem se315 : ((("answer" : Str) = ("play" : Str))) = False := eq_false (by decide)
@[simp] theorem sb316 : ((("answer" : Str) == ("twin" : Str))) = false := by decide
@[simp] theorem se316 : ((("answer" : Str) = ("twin" : Str))) = False := eq_false (by decide)
@[simp] theorem sb317 : ((("answer" : Str) == ("stack_of" : Str))) = false := by decide
@[simp] theorem se317 : ((("answer" : Str) = ("stack_of" : Str))) = False := eq_false (by decide)
@[simp] theorem sb318 : ((("answer" : Str) == ("own_stack" : Str))) = false := by decide
@[simp] theorem se318 : ((("answer" : Str) = ("own_stack" : Str))) = False := eq_false (by decide)
@[simp] theorem sb319 : ((("answer" : Str) == ("kept" : Str))) = false := by decide
@[simp] theorem se319 : ((("answer" : Str) = ("kept" : Str))) = False := eq_false (by decide)
@[simp] theorem sb320 : ((("answer" : Str) == ("open_calls" : Str))) = false := by decide
@[simp] theorem se320 : ((("answer" : Str) = ("open_calls" : Str))) = False := eq_false (by decide)
@[simp] theorem sb321 : ((("answer" : Str) == ("events" : Str))) = false := by decide
@[simp] theorem se321 : ((("answer" : Str) = ("events" : Str))) = False := eq_false (by decide)
@[simp] theorem sb322 : ((("answer" : Str) == ("path" : Str))) = false := by decide
@[simp] theorem se322 : ((("answer" : Str) = ("path" : Str))) = False := eq_false (by decide)
@[simp] theorem sb323 : ((("fail" : Str) == ("done" : Str))) = false := by decide
@[simp] theorem se323 : ((("fail" : Str) = ("done" : Str))) = False := eq_false (by decide)
@[simp] theorem sb324 : ((("fail" : Str) == ("call" : Str))) = false := by decide
@[simp] theorem se324 : ((("fail" : Str) = ("call" : Str))) = False := eq_false (by decide)
@[simp] theorem sb325 : ((("fail" : Str) == ("answer" : Str))) = false := by decide
@[simp] theorem se325 : ((("fail" : Str) = ("answer" : Str))) = False := eq_false (by decide)
@[simp] theorem sb326 : ((("fail" : Str) == ("come_out" : Str))) = false := by decide
@[simp] theorem se326 : ((("fail" : Str) = ("come_out" : Str))) = False := eq_false (by decide)
@[simp] theorem sb327 : ((("fail" : Str) == ("play" : Str))) = false := by decide
@[simp] theorem se327 : ((("fail" : Str) = ("play" : Str))) = False := eq_false (by decide)
@[simp] theorem sb328 : ((("fail" : Str) == ("twin" : Str))) = false := by decide
@[simp] theorem se328 : ((("fail" : Str) = ("twin" : Str))) = False := eq_false (by decide)
@[simp] theorem sb329 : ((("fail" : Str) == ("stack_of" : Str))) = false := by decide
@[simp] theorem se329 : ((("fail" : Str) = ("stack_of" : Str))) = False := eq_false (by decide)
@[simp] theorem sb330 : ((("fail" : Str) == ("own_stack" : Str))) = false := by decide
@[simp] theorem se330 : ((("fail" : Str) = ("own_stack" : Str))) = False := eq_false (by decide)
@[simp] theorem sb331 : ((("fail" : Str) == ("kept" : Str))) = false := by decide
@[simp] theorem se331 : ((("fail" : Str) = ("kept" : Str))) = False := eq_false (by decide)
@[simp] theorem sb332 : ((("fail" : Str) == ("open_calls" : Str))) = false := by decide
@[simp] theorem se332 : ((("fail" : Str) = ("open_calls" : Str))) = False := eq_false (by decide)
@[simp] theorem sb333 : ((("fail" : Str) == ("events" : Str))) = false := by decide
@[simp] theorem se333 : ((("fail" : Str) = ("events" : Str))) = False := eq_false (by decide)
@[simp] theorem sb334 : ((("fail" : Str) == ("path" : Str))) = false := by decide
@[simp] theorem se334 : ((("fail" : Str) = ("path" : Str))) = False := eq_false (by decide)
@[simp] theorem sb335 : ((("come_out" : Str) == ("done" : Str))) = false := by decide
@[simp] theorem se335 : ((("come_out" : Str) = ("done" : Str))) = False := eq_false (by decide)
@[simp] theorem sb336 : ((("come_out" : Str) == ("call" : Str))) = false := by decide
@[simp] theorem se336 : ((("come_out" : Str) = ("call" : Str))) = False := eq_false (by decide)
@[simp] theorem sb337 : ((("come_out" : Str) == ("answer" : Str))) = false := by decide
@[simp] theorem se337 : ((("come_out" : Str) = ("answer" : Str))) = False := eq_false (by decide)
@[simp] theorem sb338 : ((("come_out" : Str) == ("fail" : Str))) = false := by decide
@[simp] theorem se338 : ((("come_out" : Str) = ("fail" : Str))) = False := eq_false (by decide)
@[simp] theorem sb339 : ((("come_out" : Str) == ("play" : Str))) = false := by decide
@[simp] theorem se339 : ((("come_out" : Str) = ("play" : Str))) = False := eq_false (by decide)
@[simp] theorem sb340 : ((("come_out" : Str) == ("twin" : Str))) = false := by decide
@[simp] theorem se340 : ((("come_out" : Str) = ("twin" : Str))) = False := eq_false (by decide)
@[simp] theorem sb341 : ((("come_out" : Str) == ("stack_of" : Str))) = false := by decide
@[simp] theorem se341 : ((("come_out" : Str) = ("stack_of" : Str))) = False := eq_false (by decide)
@[simp] theorem sb342 : ((("come_out" : Str) == ("own_stack" : Str))) = false := by decide
@[simp] theorem se342 : ((("come_out" : Str) = ("own_stack" : Str))) = False := eq_false (by decide)
@[simp] theorem sb343 : ((("come_out" : Str) == ("kept" : Str))) = false := by decide
@[simp] theorem se343 : ((("come_out" : Str) = ("kept" : Str))) = False := eq_false (by decide)
@[simp] theorem sb344 : ((("come_out" : Str) == ("open_calls" : Str))) = false := by decide
@[simp] theorem se344 : ((("come_out" : Str) = ("open_calls" : Str))) = False := eq_false (by decide)
@[simp] theorem sb345 : ((("come_out" : Str) == ("events" : Str))) = false := by decide
@[simp] theorem se345 : ((("come_out" : Str) = ("events" : Str))) = False := eq_false (by decide)
@[simp] theorem sb346 : ((("come_out" : Str) == ("path" : Str))) = false := by decide
@[simp] theorem se346 : ((("come_out" : Str) = ("path" : Str))) = False := eq_false (by decide)
@[simp] theorem sb347 : ((("play" : Str) == ("done" : Str))) = false := by decide
@[simp] theorem se347 : ((("play" : Str) = ("done" : Str))) = False := eq_false (by decide)
@[simp] theorem sb348 : ((("play" : Str) == ("call" : Str))) = false := by decide
@[simp] theorem se348 : ((("play" : Str) = ("call" : Str))) = False := eq_false (by decide)
@[simp] theorem sb349 : ((("play" : Str) == ("answer" : Str))) = false := by decide
@[simp] theorem se349 : ((("play" : Str) = ("answer" : Str))) = False := eq_false (by decide)
@[simp] theorem sb350 : ((("play" : Str) == ("fail" : Str))) = false := by decide
@[simp] theorem se350 : ((("play" : Str) = ("fail" : Str))) = False := eq_false (by decide)
@[simp] theorem sb351 : ((("play" : Str) == ("come_out" : Str))) = false := by decide
@[simp] theorem se351 : ((("play" : Str) = ("come_out" : Str))) = False := eq_false (by decide)
@[simp] theorem sb352 : ((("play" : Str) == ("twin" : Str))) = false := by decide
@[simp] theorem se352 : ((("play" : Str) = ("twin" : Str))) = False := eq_false (by decide)
@[simp] theorem sb353 : ((("play" : Str) == ("stack_of" : Str))) = false := by decide
@[simp] theorem se353 : ((("play" : Str) = ("stack_of" : Str))) = False := eq_false (by decide)
@[simp] theorem sb354 : ((("play" : Str) == ("own_stack" : Str))) = false := by decide
@[simp] theorem se354 : ((("play" : Str) = ("own_stack" : Str))) = False := eq_false (by decide)
@[simp] theorem sb355 : ((("play" : Str) == ("kept" : Str))) = false := by decide
@[simp] theorem se355 : ((("play" : Str) = ("kept" : Str))) = False := eq_false (by decide)
@[simp] theorem sb356 : ((("play" : Str) == ("open_calls" : Str))) = false := by decide
@[simp] theorem se356 : ((("play" : Str) = ("open_calls" : Str))) = False := eq_false (by decide)
@[simp] theorem sb357 : ((("play" : Str) == ("events" : Str))) = false := by decide
@[simp] theorem se357 : ((("play" : Str) = ("events" : Str))) = False := eq_false (by decide)
@[simp] theorem sb358 : ((("play" : Str) == ("path" : Str))) = false := by decide
@[simp] theorem se358 : ((("play" : Str) = ("path" : Str))) = False := eq_false (by decide)
@[simp] theorem sb359 : ((("twin" : Str) == ("done" : Str))) = false := by decide
@[simp] theorem se359 : ((("twin" : Str) = ("done" : Str))) = False := eq_false (by decide)
@[simp] theorem sb360 : ((("twin" : Str) == ("call" : Str))) = false := by decide
@[simp] theorem se360 : ((("twin" : Str) = ("call" : Str))) = False := eq_false (by decide)
@[simp] theorem sb361 : ((("twin" : Str) == ("answer" : Str))) = false := by decide
@[simp] theorem se361 : ((("twin" : Str) = ("answer" : Str))) = False := eq_false (by decide)
@[simp] theorem sb362 : ((("twin" : Str) == ("fail" : Str))) = false := by decide
@[simp] theorem se362 : ((("twin" : Str) = ("fail" : Str))) = False := eq_false (by decide)
@[simp] theorem sb363 : ((("twin" : Str) == ("come_out" : Str))) = false := by decide
@[simp] theorem se363 : ((("twin" : Str) = ("come_out" : Str))) = False := eq_false (by decide)
@[simp] theorem sb364 : ((("twin" : Str) == ("play" : Str))) = false := by decide
@[simp] theorem se364 : ((("twin" : Str) = ("play" : Str))) = False := eq_false (by decide)
@[simp] theorem sb365 : ((("twin" : Str) == ("stack_of" : Str))) = false := by decide
@[simp] theorem se365 : ((("twin" : Str) = ("stack_of" : Str))) = False := eq_false (by decide)
@[simp] theorem sb366 : ((("twin" : Str) == ("own_stack" : Str))) = false := by decide
@[simp] theorem se366 : ((("twin" : Str) = ("own_stack" : Str))) = False := eq_false (by decide)
@[simp] theorem sb367 : ((("twin" : Str) == ("kept" : Str))) = false := by decide
@[simp] theorem se367 : ((("twin" : Str) = ("kept" : Str))) = False := eq_false (by decide)
@[simp] theorem sb368 : ((("twin" : Str) == ("open_calls" : Str))) = false := by decide
@[simp] theorem se368 : ((("twin" : Str) = ("open_calls" : Str))) = False := eq_false (by decide)
@[simp] theorem sb369 : ((("twin" : Str) == ("events" : Str))) = false := by decide
@[simp] theorem se369 : ((("twin" : Str) = ("events" : Str))) = False := eq_false (by decide)
@[simp] theorem sb370 : ((("twin" : Str) == ("path" : Str))) = false := by decide
@[simp] theorem se370 : ((("twin" : Str) = ("path" : Str))) = False := eq_false (by decide)
@[simp] theorem sb371 : ((("stack_of" : Str) == ("done" : Str))) = false := by decide
@[simp] theorem se371 : ((("stack_of" : Str) = ("done" : Str))) = False := eq_false (by decide)
@[simp] theorem sb372 : ((("stack_of" : Str) == ("call" : Str))) = false := by decide
@[simp] theorem se372 : ((("stack_of" : Str) = ("call" : Str))) = False := eq_false (by decide)
@[simp] theorem sb373 : ((("stack_of" : Str) == ("answer" : Str))) = false := by decide
@[simp] theorem se373 : ((("stack_of" : Str) = ("answer" : Str))) = False := eq_false (by decide)
@[simp] theorem sb374 : ((("stack_of" : Str) == ("fail" : Str))) = false := by decide
@[simp] theorem se374 : ((("stack_of" : Str) = ("fail" : Str))) = False := eq_false (by decide)
@[simp] theorem sb375 : ((("stack_of" : Str) == ("come_out" : Str))) = false := by decide
@[simp] theorem se375 : ((("stack_of" : Str) = ("come_out" : Str))) = False := eq_false (by decide)
@[simp] theorem sb376 : ((("stack_of" : Str) == ("play" : Str))) = false := by decide
@[simp] theorem se376 : ((("stack_of" : Str) = ("play" : Str))) = False := eq_false (by decide)
@[simp] theorem sb377 : ((("stack_of" : Str) == ("twin" : Str))) = false := by decide
@[simp] theorem se377 : ((("stack_of" : Str) = ("twin" : Str))) = False := eq_false (by decide)
@[simp] theorem sb378 : ((("stack_of" : Str) == ("own_stack" : Str))) = false := by decide
@[simp] theorem se378 : ((("stack_of" : Str) = ("own_stack" : Str))) = False := eq_false (by decide)
@[simp] theorem sb379 : ((("stack_of" : Str) == ("kept" : Str))) = false := by decide
@[simp] theorem se379 : ((("stack_of" : Str) = ("kept" : Str))) = False := eq_false (by decide)
@[simp] theorem sb380 : ((("stack_of" : Str) == ("open_calls" : Str))) = false := by decide
@[simp] theorem se380 : ((("stack_of" : Str) = ("open_calls" : Str))) = False := eq_false (by decide)
@[simp] theorem sb381 : ((("stack_of" : Str) == ("events" : Str))) = false := by decide
@[simp] theorem se381 : ((("stack_of" : Str) = ("events" : Str))) = False := eq_false (by decide)
@[simp] theorem sb382 : ((("stack_of" : Str) == ("path" : Str))) = false := by decide
@[simp] theorem se382 : ((("stack_of" : Str) = ("path" : Str))) = False := eq_false (by decide)
@[simp] theorem sb383 : ((("own_stack" : Str) == ("done" : Str))) = false := by decide
@[simp] theorem se383 : ((("own_stack" : Str) = ("done" : Str))) = False := eq_false (by decide)
@[simp] theorem sb384 : ((("own_stack" : Str) == ("call" : Str))) = false := by decide
@[simp] theorem se384 : ((("own_stack" : Str) = ("call" : Str))) = False := eq_false (by decide)
@[simp] theorem sb385 : ((("own_stack" : Str) == ("answer" : Str))) = false := by decide
@[simp] theorem se385 : ((("own_stack" : Str) = ("answer" : Str))) = False := eq_false (by decide)
@[simp] theorem sb386 : ((("own_stack" : Str) == ("fail" : Str))) = false := by decide
@[simp] theorem se386 : ((("own_stack" : Str) = ("fail" : Str))) = False := eq_false (by decide)
@[simp] theorem sb387 : ((("own_stack" : Str) == ("come_out" : Str))) = false := by decide
@[simp] theorem se387 : ((("own_stack" : Str) = ("come_out" : Str))) = False := eq_false (by decide)
@[simp] theorem sb388 : ((("own_stack" : Str) == ("play" : Str))) = false := by decide
@[simp] theorem se388 : ((("own_stack" : Str) = ("play" : Str))) = False := eq_false (by decide)
@[simp] theorem sb389 : ((("own_stack" : Str) == ("twin" : Str))) = false := by decide
@[simp] theorem se389 : ((("own_stack" : Str) = ("twin" : Str))) = False := eq_false (by decide)
@[simp] theorem sb390 : ((("own_stack" : Str) == ("stack_of" : Str))) = false := by decide
@[simp] theorem se390 : ((("own_stack" : Str) = ("stack_of" : Str))) = False := eq_false (by decide)
@[simp] theorem sb391 : ((("kept" : Str) == ("done" : Str))) = false := by decide
@[simp] theorem se391 : ((("kept" : Str) = ("done" : Str))) = False := eq_false (by decide)
@[simp] theorem sb392 : ((("kept" : Str) == ("call" : Str))) = false := by decide
@[simp] theorem se392 : ((("kept" : Str) = ("call" : Str))) = False := eq_false (by decide)
@[simp] theorem sb393 : ((("kept" : Str) == ("answer" : Str))) = false := by decide
@[simp] theorem se393 : ((("kept" : Str) = ("answer" : Str))) = False := eq_false (by decide)
@[simp] theorem sb394 : ((("kept" : Str) == ("fail" : Str))) = false := by decide
@[simp] theorem se394 : ((("kept" : Str) = ("fail" : Str))) = False := eq_false (by decide)
@[simp] theorem sb395 : ((("kept" : Str) == ("come_out" : Str))) = false := by decide
@[simp] theorem se395 : ((("kept" : Str) = ("come_out" : Str))) = False := eq_false (by decide)
@[simp] theorem sb396 : ((("kept" : Str) == ("play" : Str))) = false := by decide
@[simp] theorem se396 : ((("kept" : Str) = ("play" : Str))) = False := eq_false (by decide)
@[simp] theorem sb397 : ((("kept" : Str) == ("twin" : Str))) = false := by decide
@[simp] theorem se397 : ((("kept" : Str) = ("twin" : Str))) = False := eq_false (by decide)
@[simp] theorem sb398 : ((("kept" : Str) == ("stack_of" : Str))) = false := by decide
@[simp] theorem se398 : ((("kept" : Str) = ("stack_of" : Str))) = False := eq_false (by decide)
@[simp] theorem sb399 : ((("open_calls" : Str) == ("done" : Str))) = false := by decide
@[simp] theorem se399 : ((("open_calls" : Str) = ("done" : Str))) = False := eq_false (by decide)
@[simp] theorem sb400 : ((("open_calls" : Str) == ("call" : Str))) = false := by decide
@[simp] theorem se400 : ((("open_calls" : Str) = ("call" : Str))) = False := eq_false (by decide)
@[simp] theorem sb401 : ((("open_calls" : Str) == ("answer" : Str))) = false := by decide
@[simp] theorem se401 : ((("open_calls" : Str) = ("answer" : Str))) = False := eq_false (by decide)
@[simp] theorem sb402 : ((("open_calls" : Str) == ("fail" : Str))) = false := by decide
@[simp] theorem se402 : ((("open_calls" : Str) = ("fail" : Str))) = False := eq_false (by decide)
@[simp] theorem sb403 : ((("open_calls" : Str) == ("come_out" : Str))) = false := by decide
@[simp] theorem se403 : ((("open_calls" : Str) = ("come_out" : Str))) = False := eq_false (by decide)
@[simp] theorem sb404 : ((("open_calls" : Str) == ("play" : Str))) = false := by decide
@[simp] theorem se404 : ((("open_calls" : Str) = ("play" : Str))) = False := eq_false (by decide)
@[simp] theorem sb405 : ((("open_calls" : Str) == ("twin" : Str))) = false := by decide
@[simp] theorem se405 : ((("open_calls" : Str) = ("twin" : Str))) = False := eq_false (by decide)
@[simp] theorem sb406 : ((("open_calls" : Str) == ("stack_of" : Str))) = false := by decide
@[simp] theorem se406 : ((("open_calls" : Str) = ("stack_of" : Str))) = False := eq_false (by decide)
@[simp] theorem sb407 : ((("events" : Str) == ("done" : Str))) = false := by decide
@[simp] theorem se407 : ((("events" : Str) = ("done" : Str))) = False := eq_false (by decide)
@[simp] theorem sb408 : ((("events" : Str) == ("call" : Str))) = false := by decide
@[simp] theorem se408 : ((("events" : Str) = ("call" : Str))) = False := eq_false (by decide)
@[simp] theorem sb409 : ((("events" : Str) == ("answer" : Str))) = false := by decide
@[simp] theorem se409 : ((("events" : Str) = ("answer" : Str))) = False := eq_false (by decide)
@[simp] theorem sb410 : ((("events" : Str) == ("fail" : Str))) = false := by decide
@[simp] theorem se410 : ((("events" : Str) = ("fail" : Str))) = False := eq_false (by decide)
@[simp] theorem sb411 : ((("events" : Str) == ("come_out" : Str))) = false := by decide
@[simp] theorem se411 : ((("events" : Str) = ("come_out" : Str))) = False := eq_false (by decide)
@[simp] theorem sb412 : ((("events" : Str) == ("play" : Str))) = false := by decide
@[simp] theorem se412 : ((("events" : Str) = ("play" : Str))) = False := eq_false (by decide)
@[simp] theorem sb413 : ((("events" : Str) == ("twin" : Str))) = false := by decide
@[simp] theorem se413 : ((("events" : Str) = ("twin" : Str))) = False := eq_false (by decide)
@[simp] theorem sb414 : ((("events" : Str) == ("stack_of" : Str))) = false := by decide
@[simp] theorem se414 : ((("events" : Str) = ("stack_of" : Str))) = False := eq_false (by decide)
@[simp] theorem sb415 : ((("path" : Str) == ("done" : Str))) = false := by decide
@[simp] theorem se415 : ((("path" : Str) = ("done" : Str))) = False := eq_false (by decide)
@[simp] theorem sb416 : ((("path" : Str) == ("call" : Str))) = false := by decide
@[simp] theorem se416 : ((("path" : Str) = ("call" : Str))) = False := eq_false (by decide)
@[simp] theorem sb417 : ((("path" : Str) == ("answer" : Str))) = false := by decide
@[simp] theorem se417 : ((("path" : Str) = ("answer" : Str))) = False := eq_false (by decide)
@[simp] theorem sb418 : ((("path" : Str) == ("fail" : Str))) = false := by decide
@[simp] theorem se418 : ((("path" : Str) = ("fail" : Str))) = False := eq_false (by decide)
@[simp] theorem sb419 : ((("path" : Str) == ("come_out" : Str))) = false := by decide
@[simp] theorem se419 : ((("path" : Str) = ("come_out" : Str))) = False := eq_false (by decide)
@[simp] theorem sb420 : ((("path" : Str) == ("play" : Str))) = false := by decide
@[simp] theorem se420 : ((("path" : Str) = ("play" : Str))) = False := eq_false (by decide)
@[simp] theorem sb421 : ((("path" : Str) == ("twin" : Str))) = false := by decide
@[simp] theorem se421 : ((("path" : Str) = ("twin" : Str))) = False := eq_false (by decide)
@[simp] theorem sb422 : ((("path" : Str) == ("stack_of" : Str))) = false := by decide
@[simp] theorem se422 : ((("path" : Str) = ("stack_of" : Str))) = False := eq_false (by decide)
@[simp] theorem sb423 : ((("in" : Str) == ("answer" : Str))) = false := by decide
@[simp] theorem se423 : ((("in" : Str) = ("answer" : Str))) = False := eq_false (by decide)
@[simp] theorem sb424 : ((("in" : Str) == ("fault" : Str))) = false := by decide
@[simp] theorem se424 : ((("in" : Str) = ("fault" : Str))) = False := eq_false (by decide)
@[simp] theorem sb425 : ((("answer" : Str) == ("in" : Str))) = false := by decide
@[simp] theorem se425 : ((("answer" : Str) = ("in" : Str))) = False := eq_false (by decide)
@[simp] theorem sb426 : ((("answer" : Str) == ("fault" : Str))) = false := by decide
@[simp] theorem se426 : ((("answer" : Str) = ("fault" : Str))) = False := eq_false (by decide)
@[simp] theorem sb427 : ((("fault" : Str) == ("in" : Str))) = false := by decide
@[simp] theorem se427 : ((("fault" : Str) = ("in" : Str))) = False := eq_false (by decide)
@[simp] theorem sb428 : ((("fault" : Str) == ("answer" : Str))) = false := by decide
@[simp] theorem se428 : ((("fault" : Str) = ("answer" : Str))) = False := eq_false (by decide)
@[simp] theorem sb429 : ((("enter" : Str) == ("leave" : Str))) = false := by decide
@[simp] theorem se429 : ((("enter" : Str) = ("leave" : Str))) = False := eq_false (by decide)
@[simp] theorem sb430 : ((("leave" : Str) == ("enter" : Str))) = false := by decide
@[simp] theorem se430 : ((("leave" : Str) = ("enter" : Str))) = False := eq_false (by decide)
end Br
end
section
namespace Br
open PySem PySem.Spec L2
/-! ### operations on data -/
def lstO (o : Option MO) : Option (List D) := match o with
  | some (.lst xs) => some xs
  | _ => none
@[simp] theorem lstO_s {xs : List D} : lstO (some (.lst xs)) = some xs := rfl
def fldO (cs : List Str) (f : Str) (o : Option MO) : Option D := match o with
  | some (.ins c fs) => if c ∈ cs then fs.lookup f else none
  | _ => none
@[simp] theorem fldO_s {cs : List Str} {f c : Str} {fs : List (Str × D)} : fldO cs f (some (.ins c fs)) = if c ∈ cs then fs.lookup f else none := rfl
def insO (n : Nat) (o : Option MO) : Option (Nat × Str × List (Str × D)) := match o with
  | some (.ins c fs) => some (n, c, fs)
  | _ => none
@[simp] theorem insO_s {n : Nat} {c : Str} {fs : List (Str × D)} : insO n (some (.ins c fs)) = some (n, c, fs) := rfl
def setO (cs : List Str) (f : Str) (M : Mem) (n : Nat) (v : D) (o : Option MO) : Option Mem := match o with
  | some (.ins c fs) => if c ∈ cs ∧ fs.length < 1000 then some (M.set n (.ins c (putD f v fs))) else none
  | _ => none
@[simp] theorem setO_s {cs : List Str} {f c : Str} {M : Mem} {n : Nat} {v : D} {fs : List (Str × D)} : setO cs f M n v (some (.ins c fs)) = if c ∈ cs ∧ fs.length < 1000 then some (M.set n (.ins c (putD f v fs))) else none := rfl
@[simp] theorem lk_nil {α : Type} {k : Str} : ([] : List (Str × α)).lookup k = none := rfl
theorem lk_cons {α : Type} {k k' : Str} {a : α} {l : List (Str × α)} : ((k', a) :: l).lookup k = if (k == k') = true then some a else l.lookup k := by
  rw [List.lookup_cons]
  cases k == k' <;> rfl
@[simp] theorem lk_same {α : Type} {k : Str} {a : α} {l : List (Str × α)} : ((k, a) :: l).lookup k = some a := by rw [lk_cons]; simp
@[simp] theorem lk_ne {α : Type} {k k' : Str} {a : α} {l : List (Str × α)} (h : (k == k') = false) : ((k', a) :: l).lookup k = l.lookup k := by rw [lk_cons, h]; simp
@[simp] theorem putD_nil {f : Str} {d : D} : putD f d [] = [(f, d)] := rfl
@[simp] theorem putD_same {f : Str} {d x : D} {r : List (Str × D)} : putD f d ((f, x) :: r) = (f, d) :: r := by unfold putD; rw [if_pos rfl]
@[simp] theorem putD_ne {f g : Str} {d x : D} {r : List (Str × D)} (h : (g == f) = false) : putD f d ((g, x) :: r) = (g, x) :: putD f d r := by
  show (if g = f then _ else _) = _
  rw [if_neg (by simpa using h)]
section
variable {Q : D → Mem → Prop} {X : Exn → Mem → Prop} {M : Mem} {n : Nat} {xs ys : List D} {i j : Int} {a b d v : D} {s t : Str}
@[simp] theorem getFld_r {cs : List Str} {f : Str} : getFld cs f M (.ref n) = fldO cs f M[n]? := by
  unfold getFld fldO; dsimp only
  all_goals (rcases M[n]? with _ | o <;> first | rfl | (cases o <;> rfl))
@[simp] theorem insOf_r : insOf M (.ref n) = insO n M[n]? := by
  unfold insOf insO; dsimp only
  all_goals (rcases M[n]? with _ | o <;> first | rfl | (cases o <;> rfl))
@[simp] theorem setFld_r {cs : List Str} {f : Str} : setFld cs f M (.ref n) v = setO cs f M n v M[n]? := by
  unfold setFld setO; dsimp only
  all_goals (rcases M[n]? with _ | o <;> first | rfl | (cases o <;> rfl))
@[simp] theorem seqL_r : seqL M (.ref n) = lstO M[n]? := by
  unfold seqL lstO; dsimp only
  all_goals (rcases M[n]? with _ | o <;> first | rfl | (cases o <;> rfl))
@[simp] theorem seqL_l : seqL M (.lst xs) = some xs := rfl
@[simp] theorem seqA_r : seqA M (.ref n) = lstO M[n]? := seqL_r
@[simp] theorem seqA_l : seqA M (.lst xs) = some xs := rfl
@[simp] theorem seqA_t : seqA M (.tup xs) = some xs := rfl
theorem atN {l : List D} {k : Nat} : L2.atI l (k : Int) = l[k]? := by
  unfold L2.atI L2.ixN
  rw [if_pos (by omega)]
  by_cases h : k < l.length
  · rw [if_pos (by omega)]; simp
  · rw [if_neg (by omega)]; simp; omega
@[simp] theorem at0 {l : List D} : L2.atI (a :: l) 0 = some a := by simp [L2.atI, L2.ixN]
@[simp] theorem at1 {l : List D} : L2.atI (a :: b :: l) 1 = some b := by (have h : ((1 : Nat) : Int) = 1 := rfl); rw [← h, atN]; rfl
@[simp] theorem at2 {l : List D} : L2.atI (a :: b :: d :: l) 2 = some d := by (have h : ((2 : Nat) : Int) = 2 := rfl); rw [← h, atN]; rfl
@[simp] theorem at3 {l : List D} : L2.atI (a :: b :: d :: v :: l) 3 = some v := by (have h : ((3 : Nat) : Int) = 3 := rfl); rw [← h, atN]; rfl
theorem ixNN {m k : Nat} (h : k < m) : L2.ixN m (k : Int) = some k := by
  unfold L2.ixN
  rw [if_pos (by omega), if_pos (by omega)]; simp
@[simp] theorem gIx_tw : wpE (gIx (.tup xs) (.int i) M) Q X = wpO (L2.atI xs i) (fun d => Q d M) := by
  unfold gIx; dsimp only [seqA_t]
  cases L2.atI xs i <;> rfl
@[simp] theorem gIx_lw : wpE (gIx (.lst xs) (.int i) M) Q X = wpO (L2.atI xs i) (fun d => Q d M) := by
  unfold gIx; dsimp only [seqA_l]
  cases L2.atI xs i <;> rfl
@[simp] theorem gIx_rw : wpE (gIx (.ref n) (.int i) M) Q X = wpO (lstO M[n]?) (fun xs => wpO (L2.atI xs i) (fun d => Q d M)) := by
  unfold gIx; dsimp only
  rw [seqA_r]
  cases lstO M[n]? with
  | none => rfl
  | some xs => dsimp only [wpO]; cases L2.atI xs i <;> rfl
@[simp] theorem gAdd_iw : wpE (gAdd (.int i) (.int j) M) Q X = Q (.int (i + j)) M := rfl
@[simp] theorem gAdd_tw : wpE (gAdd (.tup xs) (.tup ys) M) Q X = (xs.length + ys.length ≤ sizeLine ∧ Q (.tup (xs ++ ys)) M) := by
  unfold gAdd; dsimp only; by_cases h : xs.length + ys.length ≤ sizeLine <;> simp [h]
@[simp] theorem gAdd_sw : wpE (gAdd (.str s) (.str t) M) Q X = (s.length + t.length ≤ sizeLine ∧ Q (.str (s ++ t)) M) := by
  unfold gAdd; dsimp only; by_cases h : s.length + t.length ≤ sizeLine <;> simp [h]
@[simp] theorem gSub_iw : wpE (gSub (.int i) (.int j) M) Q X = Q (.int (i - j)) M := rfl
@[simp] theorem gNeg_iw : wpE (gNeg (.int i) M) Q X = Q (.int (-i)) M := rfl
@[simp] theorem gLt_iw : wpE (gLt (.int i) (.int j) M) Q X = Q (.bl (decide (i < j))) M := rfl
@[simp] theorem gLe_iw : wpE (gLe (.int i) (.int j) M) Q X = Q (.bl (decide (i ≤ j))) M := rfl
@[simp] theorem gGt_iw : wpE (gGt (.int i) (.int j) M) Q X = Q (.bl (decide (j < i))) M := rfl
@[simp] theorem gGe_iw : wpE (gGe (.int i) (.int j) M) Q X = Q (.bl (decide (j ≤ i))) M := rfl
@[simp] theorem gMod_iw : wpE (gMod (.int i) (.int j) M) Q X = (0 < j ∧ Q (.int (i % j)) M) := by
  unfold gMod; dsimp only; by_cases h : 0 < j <;> simp [h]
@[simp] theorem gFdiv_iw : wpE (gFdiv (.int i) (.int j) M) Q X = ((0 < j ∧ j < 2 ^ 64) ∧ Q (.int (i / j)) M) := by
  unfold gFdiv; dsimp only; by_cases h : 0 < j ∧ j < 2 ^ 64
  · rw [if_pos h]; simp only [h, wpE_ok, true_and]
  · rw [if_neg h]; simp only [h, wpE_no, false_and]
@[simp] theorem gMul_iw : wpE (gMul' (.int i) (.int j) M) Q X = (mulOk i j = true ∧ Q (.int (i * j)) M) := by
  unfold gMul'; dsimp only; by_cases h : mulOk i j = true <;> simp [h]
@[simp] theorem gPow_iw : wpE (gPow (.int i) (.int j) M) Q X = ((0 ≤ j ∧ j ≤ 1000 ∧ i.natAbs < 2 ^ 200) ∧ Q (.int (i ^ j.toNat)) M) := by
  unfold gPow; dsimp only; by_cases h : 0 ≤ j ∧ j ≤ 1000 ∧ i.natAbs < 2 ^ 200
  · rw [if_pos h]; simp only [h, wpE_ok, true_and]
  · rw [if_neg h]; simp only [h, wpE_no, false_and]
@[simp] theorem gEq_w : wpE (gEq a b M) Q X = wpO (eqD M a b) (fun k => Q (.bl k) M) := by unfold gEq; cases eqD M a b <;> rfl
@[simp] theorem gNe_w : wpE (gNe a b M) Q X = wpO (eqD M a b) (fun k => Q (.bl (!k)) M) := by unfold gNe; cases eqD M a b <;> rfl
@[simp] theorem eqD_i : eqD M (.int i) (.int j) = some (decide (i = j)) := rfl
@[simp] theorem eqD_s : eqD M (.str s) (.str t) = some (decide (s = t)) := rfl
@[simp] theorem eqD_n : eqD M .non .non = some true := rfl
@[simp] theorem gIn_w {neg : Bool} : wpE (gIn neg a b M) Q X = wpO (inD M a b) (fun k => Q (.bl (if neg then !k else k)) M) := by unfold gIn; cases inD M a b <;> rfl
def isN : D → Bool
  | .non => true
  | _ => false
@[simp] theorem isN_n : isN .non = true := rfl
@[simp] theorem isN_i : isN (.int i) = false := rfl
@[simp] theorem isN_t : isN (.tup xs) = false := rfl
@[simp] theorem isN_r : isN (.ref n) = false := rfl
@[simp] theorem isN_s : isN (.str s) = false := rfl
@[simp] theorem gIsN_w {k : Bool} : wpE (gIsN k a .non M) Q X = Q (.bl (if isN a then k else !k)) M := by cases a <;> rfl
@[simp] theorem gLen_tw : wpE (gLen [.tup xs] M) Q X = Q (.int xs.length) M := rfl
@[simp] theorem gLen_lw : wpE (gLen [.lst xs] M) Q X = Q (.int xs.length) M := rfl
@[simp] theorem gLen_rw : wpE (gLen [.ref n] M) Q X = wpO (lstO M[n]?) (fun xs => Q (.int xs.length) M) := by
  unfold gLen; dsimp only; rw [seqA_r]; cases lstO M[n]? <;> rfl
@[simp] theorem gTupOf_tw : wpE (gTupOf [.tup xs] M) Q X = Q (.tup xs) M := rfl
@[simp] theorem gTupOf_lw : wpE (gTupOf [.lst xs] M) Q X = Q (.tup xs) M := rfl
@[simp] theorem gTupOf_rw : wpE (gTupOf [.ref n] M) Q X = wpO (lstO M[n]?) (fun xs => Q (.tup xs) M) := by
  unfold gTupOf; dsimp only; rw [seqL_r]; cases lstO M[n]? <;> rfl
@[simp] theorem gLstOf_w : wpE (gLstOf [d] M) Q X = wpO (seqA M d) (fun xs => Q (.ref M.length) (M ++ [.lst xs])) := by
  unfold gLstOf; dsimp only; cases seqA M d <;> rfl
@[simp] theorem gLstV_w : wpE (gLstV [d] M) Q X = wpO (seqA M d) (fun xs => Q (.lst xs) M) := by
  unfold gLstV; dsimp only; cases seqA M d <;> rfl
@[simp] theorem gSorted_w : wpE (gSorted [d] M) Q X = wpO ((seqA M d).bind intsOf) (fun ns => ns.length < 64 ∧ Q (.lst ((srtI ns).map .int)) M) := by
  unfold gSorted; dsimp only
  cases (seqA M d).bind intsOf with
  | none => rfl
  | some ns => dsimp only [wpO]; by_cases h : ns.length < 64 <;> simp [h]
@[simp] theorem gAppend_w : wpE (gAppend (.ref n) [d] M) Q X = wpO (lstO M[n]?) (fun xs => xs.length < sizeLine ∧ Q .non (M.set n (.lst (xs ++ [d])))) := by
  unfold gAppend; dsimp only
  cases M[n]? with
  | none => rfl
  | some o =>
    cases o with
    | lst xs => dsimp only [lstO, wpO]; by_cases h : xs.length < sizeLine <;> simp [h]
    | dic _ => rfl
    | ins _ _ => rfl
@[simp] theorem gPop_w : wpE (gPop (.ref n) [] M) Q X = wpO (lstO M[n]?) (fun xs => wpO xs[xs.length - 1]? (fun d => Q d (M.set n (.lst xs.dropLast)))) := by
  unfold gPop; dsimp only
  cases M[n]? with
  | none => rfl
  | some o =>
    cases o with
    | lst xs => dsimp only [lstO, wpO]; cases xs[xs.length - 1]? <;> rfl
    | dic _ => rfl
    | ins _ _ => rfl
@[simp] theorem setD_w {P : Mem → Prop} : wpO (setD (.ref n) (.int i) d M) P = wpO (lstO M[n]?) (fun xs => wpO (L2.ixN xs.length i) (fun j => P (M.set n (.lst (xs.set j d))))) := by
  unfold setD; dsimp only
  cases M[n]? with
  | none => rfl
  | some o =>
    cases o with
    | lst xs => dsimp only [lstO, wpO]; cases L2.ixN xs.length i <;> rfl
    | dic _ => rfl
    | ins _ _ => rfl
@[simp] theorem truD_n : truD M .non = some false := rfl
@[simp] theorem truD_b {k : Bool} : truD M (.bl k) = some k := rfl
@[simp] theorem truD_i : truD M (.int i) = some (i != 0) := rfl
@[simp] theorem truD_t : truD M (.tup xs) = some (!xs.isEmpty) := rfl
@[simp] theorem truD_l : truD M (.lst xs) = some (!xs.isEmpty) := rfl
@[simp] theorem gAbs_w : wpE (gAbs [.int i] M) Q X = Q (.int (if i < 0 then -i else i)) M := rfl
@[simp] theorem gMax_w : wpE (gMax [.int i, .int j] M) Q X = Q (.int (if j > i then j else i)) M := rfl
@[simp] theorem gMin_w : wpE (gMin [.int i, .int j] M) Q X = Q (.int (if j < i then j else i)) M := rfl
@[simp] theorem gInt_iw : wpE (gInt [.int i] M) Q X = Q (.int i) M := rfl
@[simp] theorem gInt_bw {k : Bool} : wpE (gInt [.bl k] M) Q X = Q (.int (if k then 1 else 0)) M := rfl
@[simp] theorem gSl_tw {lo hi : Option Int} : wpE (gSl (.tup xs) lo hi M) Q X = Q (.tup (cutD xs lo hi)) M := rfl
@[simp] theorem gRev_w : wpE (gRev (.tup xs) M) Q X = Q (.tup xs.reverse) M := rfl
@[simp] theorem gLenO_iw {tb : PTb} {c : Str} {fs : List (Str × D)} (h : M[n]? = some (.ins c fs)) : wpE (gLenO tb [.ref n] M) Q X = wpO (tb.lookup c) (fun G => wpE (G [.ref n] M) (fun d M => wpI d fun i => (0 ≤ i ∧ i < 2 ^ 63) ∧ Q (.int i) M) (fun _ _ => False)) := by
  unfold gLenO
  dsimp only
  rw [insOf_r, h]
  dsimp only [insO]
  cases tb.lookup c with
  | none => rfl
  | some G =>
    dsimp only [wpO]
    cases G [.ref n] M with
    | ok d M' =>
      cases d with
      | int k =>
        dsimp only [lenR, wpE, wpI]
        by_cases hk : 0 ≤ k ∧ k < 2 ^ 63
        · rw [if_pos hk]; simp only [hk, true_and]
        · rw [if_neg hk]; simp only [hk, false_and]
      | _ => rfl
    | ex e M' => rfl
    | no => rfl
@[simp] theorem wkOf_t : wkOf M (.tup xs) = some (.items xs) := rfl
@[simp] theorem wkOf_l : wkOf M (.lst xs) = some (.items xs) := rfl
end
@[simp] theorem st0_def {n : Nat} {ds : List D} : st0 n ds = ds.map some ++ List.replicate (n - ds.length) none := rfl
@[simp] theorem pk_def {α : Type} {l : List α} {i : Nat} : pk l i = l[i]?.toList := rfl
theorem szl : sizeLine = 16777216 := sizeLine_eq
end Br
end
section
namespace Br
open PySem PySem.Spec L2
/-! ### ints in tuples -/
def tupI (l : List Int) : D := .tup (l.map .int)
@[simp] theorem tupI_seq {M : Mem} {l : List Int} : seqA M (tupI l) = some (l.map .int) := rfl
@[simp] theorem ints_map : ∀ l : List Int, intsOf (l.map D.int) = some l
  | [] => rfl
  | x :: l => by simp [intsOf, ints_map l]
theorem toPys_ints (rs : Nat → Option PyData) : ∀ l : List Int, toPysR rs (l.map D.int) = some (l.map PyData.int)
  | [] => rfl
  | x :: l => by simp [toPysR, toPyR, toPys_ints rs l]
theorem lay_ints : ∀ l : List Int, PyData.canLayAll0 (l.map PyData.int) = true
  | [] => rfl
  | x :: l => by rw [List.map_cons, PyData.canLayAll0, lay_ints l]; rfl
theorem depth_ints : ∀ l : List Int, PyData.depthAll (l.map PyData.int) = 0
  | [] => rfl
  | x :: l => by rw [List.map_cons, PyData.depthAll, depth_ints l]; rfl
theorem shaped_ints (l : List Int) : SeqAt.shaped (.tuple (l.map PyData.int)) = true := by
  unfold SeqAt.shaped
  rw [PyData.canLay0, lay_ints, PyData.depth, depth_ints]; rfl
theorem any_ints (x : Int) : ∀ l : List Int, ((l.map PyData.int).any fun z => PyData.eqv z (.int x)) = decide (x ∈ l)
  | [] => by simp
  | y :: l => by
    rw [List.map_cons, List.any_cons, any_ints x l, PyData.eqv]
    by_cases h : y = x
    · subst h; simp
    · have h' : x ≠ y := fun e => h e.symm
      simp [h, h']
@[simp] theorem in_tupI {M : Mem} {x : Int} {l : List Int} : inD M (.int x) (tupI l) = some (decide (x ∈ l)) := by
  have e1 : toPy M (tupI l) = some (.tuple (l.map PyData.int)) := by
    unfold toPy tupI toPyR
    rw [toPys_ints]; rfl
  show (match toPy M (.int x), toPy M (tupI l) with
    | some p, some (.list ps) => if SeqAt.shaped p && SeqAt.shaped (.list ps) then some (ps.any fun z => PyData.eqv z p) else none
    | some p, some (.tuple ps) => if SeqAt.shaped p && SeqAt.shaped (.tuple ps) then some (ps.any fun z => PyData.eqv z p) else none
    | _, _ => none) = _
  rw [e1]
  show (if (SeqAt.shaped (.int x) && SeqAt.shaped (.tuple (l.map PyData.int))) = true then _ else _) = _
  rw [shaped_ints, if_pos (by rfl), any_ints]
/-! ### a value equals itself -/
theorem eqD_self {B : Nat} {d : D} (h0 : 0 < B) (hB : B ≤ 50) (h : okD B d = true) (hd : dpD d ≤ 64) (M : Mem) : eqD M d d = some true := by
  obtain ⟨p, q⟩ := okD_py h0 hB d h
  have e := toPy_ok' q M
  have hs := shaped_ok q hd
  have key : (match toPy M d, toPy M d with
    | some p, some q => if SeqAt.shaped p && SeqAt.shaped q then some (PyData.eqv p q) else none
    | _, _ => none) = some true := by
    rw [e]
    dsimp only
    rw [hs]
    show (if true = true then _ else _) = _
    rw [if_pos rfl, PySem.SeqAt.eqv_refl p q.lay]
  cases d with
  | int i => simp [eqD]
  | str x => simp [eqD]
  | non => rfl
  | bl b => simp [eqD]
  | ref n => simp [okD] at h
  | gl n => simp [okD] at h
  | ty n => simp [okD] at h
  | ptp n => simp [okD] at h
  | exc n m k => simp [okD] at h
  | adr n m => simp [okD] at h
  | tup xs => exact key
  | lst xs => exact key
theorem toPysR_rs {rs rs' : Nat → Option PyData} : ∀ {ds : List D} {ps : List PyData}, toPysR (fun _ => none) ds = some ps → toPysR rs ds = some ps := fun h => toPysR_mono _ _ _ h
theorem eqD_lr {B : Nat} {xs : List D} {n : Nat} {M : Mem} (h0 : 0 < B) (hB : B ≤ 50) (h : okD B (.lst xs) = true) (hd : dpD (.lst xs) ≤ 64) (hn : M[n]? = some (.lst xs)) : eqD M (.lst xs) (.ref n) = some true := by
  obtain ⟨p, q⟩ := okD_py h0 hB _ h
  have e := toPy_ok' q M
  have hs := shaped_ok q hd
  have e2 : toPy M (.ref n) = some p := by
    show rsN M 3 n = some p
    unfold rsN
    rw [hn]
    have z := q.py
    unfold toPyR at z
    cases hp : toPysR (fun _ => none) xs with
    | none => rw [hp] at z; cases z
    | some ps =>
      rw [hp] at z
      cases z
      show (toPysR (rsN M 2) xs).map PyData.list = _
      rw [toPysR_mono _ _ _ hp]; rfl
  show (match toPy M (.lst xs), toPy M (.ref n) with
    | some p, some q => if SeqAt.shaped p && SeqAt.shaped q then some (PyData.eqv p q) else none
    | _, _ => none) = some true
  rw [e, e2]
  dsimp only
  rw [hs]
  show (if true = true then _ else _) = _
  rw [if_pos rfl, PySem.SeqAt.eqv_refl p q.lay]
@[simp] theorem okD_n {B : Nat} : okD B .non = true := rfl
@[simp] theorem okD_b {B : Nat} {k : Bool} : okD B (.bl k) = true := rfl
@[simp] theorem okD_i {B : Nat} {i : Int} : okD B (.int i) = decide (i.natAbs < 10 ^ B) := by simp [okD]
@[simp] theorem okD_s {B : Nat} {s : Str} : okD B (.str s) = PyData.strOk s := by simp [okD]
@[simp] theorem okD_t {B : Nat} {l : List D} : okD B (.tup l) = okDs B l := by simp [okD]
@[simp] theorem okD_l {B : Nat} {l : List D} : okD B (.lst l) = okDs B l := by simp [okD]
@[simp] theorem okDs_n {B : Nat} : okDs B [] = true := rfl
@[simp] theorem okDs_c {B : Nat} {x : D} {l : List D} : okDs B (x :: l) = (okD B x && okDs B l) := by simp [okDs]
@[simp] theorem dpD_i {i : Int} : dpD (.int i) = 0 := by simp [dpD]
@[simp] theorem dpD_n : dpD .non = 0 := by simp [dpD]
@[simp] theorem dpD_s {s : Str} : dpD (.str s) = 0 := by simp [dpD]
@[simp] theorem dpD_b {s : Bool} : dpD (.bl s) = 0 := by simp [dpD]
@[simp] theorem dpD_t {l : List D} : dpD (.tup l) = dpDs l + 1 := by simp [dpD]
@[simp] theorem dpD_l {l : List D} : dpD (.lst l) = dpDs l + 1 := by simp [dpD]
@[simp] theorem dpDs_n : dpDs [] = 0 := by simp [dpDs]
@[simp] theorem dpDs_c {x : D} {l : List D} : dpDs (x :: l) = max (dpD x) (dpDs l) := by simp [dpDs]
@[simp] theorem wtD_i {i : Int} : wtD (.int i) = 200 := by simp [wtD]
@[simp] theorem wtD_n : wtD .non = 0 := by simp [wtD]
@[simp] theorem wtD_s {s : Str} : wtD (.str s) = s.cps.size := by simp [wtD]
@[simp] theorem wtD_t {l : List D} : wtD (.tup l) = wtDs l := by simp [wtD]
@[simp] theorem wtD_l {l : List D} : wtD (.lst l) = wtDs l := by simp [wtD]
@[simp] theorem wtDs_n : wtDs [] = 0 := by simp [wtDs]
@[simp] theorem wtDs_c {x : D} {l : List D} : wtDs (x :: l) = wtD x + 1 + wtDs l := by simp [wtDs]
end Br
end
section
namespace Br
open PySem PySem.Spec L2
/-! ### comprehensions -/
section
variable {Q : D → Mem → Prop} {X : Exn → Mem → Prop} {ρ : En} {M : Mem} {vs : List Nat} {fw : En → Mem → R Wk} {gg : FG} {tt : FT} {te : FE}
@[simp] theorem eLcV_w : wpE (eLcV vs fw gg tt te ρ M) Q X = wpE (fw ρ M) (fun w M => wpE (lcW gg tt te (wipeE ρ vs) w M) (fun acc M => Q (.lst acc) M) X) X := by
  unfold eLcV; rw [wpE_bind]
  congr 1; funext w M
  rw [wpE_bind]; rfl
@[simp] theorem eLcN_w : wpE (eLcN vs fw gg tt te ρ M) Q X = wpE (fw ρ M) (fun w M => wpE (lcW gg tt te (wipeE ρ vs) w M) (fun acc M => Q (.ref M.length) (M ++ [.lst acc])) X) X := by
  unfold eLcN; rw [wpE_bind]
  congr 1; funext w M
  rw [wpE_bind]; rfl
@[simp] theorem tYes_w {QB : Bool → Mem → Prop} : wpE (tYesM ρ M) QB X = QB true M := rfl
@[simp] theorem lcW_i {ds : List D} {QL : List D → Mem → Prop} : wpE (lcW gg tt te ρ (.items ds) M) QL X = wpE (lcGo gg tt te ρ ds [] M) QL X := rfl
theorem lc_w {QL : List D → Mem → Prop} (I : List D → List D → Mem → Prop)
    (ht : ∀ y ys acc M, I (y :: ys) acc M → wpS (gg y ρ M) (fun ρ1 M1 => wpE (tt ρ1 M1) (fun k M2 => (k = true → wpE (te ρ1 M2) (fun z M3 => acc.length < sizeLine ∧ I ys (acc ++ [z]) M3) (fun _ _ => False)) ∧ (k = false → I ys acc M2)) (fun _ _ => False)) (fun _ _ => False) (fun _ _ => False) (fun _ _ => False) (fun _ _ _ => False))
    (he : ∀ acc M, I [] acc M → QL acc M) : ∀ (ds acc : List D) (M : Mem), I ds acc M → wpE (lcGo gg tt te ρ ds acc M) QL X
  | [], acc, M, h => he acc M h
  | y :: ys, acc, M, h => by
    have h1 := ht y ys acc M h
    have ih := lc_w I ht he ys
    unfold lcGo
    cases hg : gg y ρ M with
    | go fl ρ1 M1 =>
      rw [hg] at h1
      cases fl with
      | nx =>
        dsimp only
        have h2 : wpE (tt ρ1 M1) _ _ := h1
        cases hk : tt ρ1 M1 with
        | ok k M2 =>
          rw [hk] at h2
          cases k with
          | true =>
            dsimp only
            have h3 := h2.1 rfl
            cases hz : te ρ1 M2 with
            | ok z M3 =>
              rw [hz] at h3
              dsimp only
              obtain ⟨h4, h5⟩ := h3
              rw [if_pos h4]
              exact ih _ _ h5
            | ex e M3 => rw [hz] at h3; exact h3.elim
            | no => rw [hz] at h3; exact h3.elim
          | false => exact ih _ _ (h2.2 rfl)
        | ex e M2 => rw [hk] at h2; exact h2.elim
        | no => rw [hk] at h2; exact h2.elim
      | ret d => exact h1.elim
      | bk => exact h1.elim
      | ct => exact h1.elim
    | ex e ρ1 M1 => rw [hg] at h1; exact h1.elim
    | no => rw [hg] at h1; exact h1.elim
theorem lc_pure {QL : List D → Mem → Prop} (p : D → Bool) (f : D → D) {ds : List D} (hl : ds.length ≤ sizeLine)
    (ht : ∀ y ∈ ds, wpS (gg y ρ M) (fun ρ1 M1 => M1 = M ∧ wpE (tt ρ1 M) (fun k M2 => (M2 = M ∧ k = p y) ∧ (k = true → wpE (te ρ1 M) (fun z M3 => M3 = M ∧ z = f y) (fun _ _ => False))) (fun _ _ => False)) (fun _ _ => False) (fun _ _ => False) (fun _ _ => False) (fun _ _ _ => False))
    (h : QL ((ds.filter p).map f) M) : wpE (lcGo gg tt te ρ ds [] M) QL X := by
  refine lc_w (fun ys acc M' => M' = M ∧ ∃ zs, zs ++ ys = ds ∧ acc = (zs.filter p).map f) (fun y ys acc M' hI => ?_) (fun acc M' hI => ?_) ds [] M ⟨rfl, [], rfl, rfl⟩
  · obtain ⟨rfl, zs, e, rfl⟩ := hI
    have hm : y ∈ ds := by rw [← e]; simp
    have hlen : ((zs.filter p).map f).length < sizeLine := by
      have h1 := List.length_filter_le p zs
      have h2 : zs.length + (ys.length + 1) = ds.length := by rw [← e]; simp
      rw [List.length_map]; omega
    refine wpS_mono (ht y hm) (fun ρ1 M1 hh => ?_) (fun _ _ z => z) (fun _ _ z => z) (fun _ _ z => z) (fun _ _ _ z => z)
    obtain ⟨rfl, hh⟩ := hh
    refine wpE_mono hh (fun k M2 hk => ?_) fun _ _ z => z
    obtain ⟨⟨rfl, rfl⟩, hk⟩ := hk
    refine ⟨fun hp => ?_, fun hp => ⟨rfl, zs ++ [y], by simpa using e, by simp [hp]⟩⟩
    refine wpE_mono (hk hp) (fun z M3 hz => ?_) fun _ _ z => z
    obtain ⟨rfl, rfl⟩ := hz
    exact ⟨hlen, rfl, zs ++ [y], by simpa using e, by simp [hp]⟩
  · obtain ⟨rfl, zs, e, rfl⟩ := hI
    rw [List.append_nil] at e
    rw [e]; exact h
end
/-! ### words with numbers -/
theorem eqD_si {M : Mem} {a c : Str} {b d : Int} (ha : PyData.strOk a = true) (hc : PyData.strOk c = true) : eqD M (.tup [.str a, .int b]) (.tup [.str c, .int d]) = some (decide (a = c) && decide (b = d)) := by
  have h1 : toPy M (.tup [.str a, .int b]) = some (.tuple [.str a, .int b]) := rfl
  have h2 : toPy M (.tup [.str c, .int d]) = some (.tuple [.str c, .int d]) := rfl
  show (match toPy M (.tup [.str a, .int b]), toPy M (.tup [.str c, .int d]) with
    | some p, some q => if SeqAt.shaped p && SeqAt.shaped q then some (PyData.eqv p q) else none
    | _, _ => none) = _
  rw [h1, h2]
  dsimp only
  have s1 : SeqAt.shaped (.tuple [.str a, .int b]) = true := by
    unfold SeqAt.shaped
    simp [PyData.canLay0, PyData.canLayAll0, PyData.depth, PyData.depthAll, ha]
  have s2 : SeqAt.shaped (.tuple [.str c, .int d]) = true := by
    unfold SeqAt.shaped
    simp [PyData.canLay0, PyData.canLayAll0, PyData.depth, PyData.depthAll, hc]
  rw [s1, s2]
  show (if true = true then _ else _) = _
  rw [if_pos rfl]
  simp only [PyData.eqv, PyData.eqvAll, Bool.and_true]
  congr 1
@[simp] theorem sAns : PyData.strOk ("answer" : Str) = true := by decide +kernel
@[simp] theorem sFlt : PyData.strOk ("fault" : Str) = true := by decide +kernel
@[simp] theorem sIn : PyData.strOk ("in" : Str) = true := by decide +kernel
@[simp] theorem sCall : PyData.strOk ("call" : Str) = true := by decide +kernel
@[simp] theorem sFail : PyData.strOk ("fail" : Str) = true := by decide +kernel
end Br
end
section
namespace Br
open PySem PySem.Spec L2
/-! ### data without references, ints of any size -/
mutual
def purD : D → Bool
  | .non => true
  | .bl _ => true
  | .int _ => true
  | .str x => PyData.strOk x
  | .tup xs => purDs xs
  | .lst xs => purDs xs
  | .ref _ => false
  | .gl _ => false
  | .ty _ => false
  | .ptp _ => false
  | .exc _ _ _ => false
  | .adr _ _ => false
def purDs : List D → Bool
  | [] => true
  | x :: xs => purD x && purDs xs
end
structure PurOk (d : D) (p : PyData) : Prop where
  py : toPyR (fun _ => none) d = some p
  lay : p.canLay0 = true
  dep : p.depth = dpD d
structure PursOk (ds : List D) (ps : List PyData) : Prop where
  py : toPysR (fun _ => none) ds = some ps
  lay : PyData.canLayAll0 ps = true
  dep : PyData.depthAll ps = dpDs ds
mutual
theorem purD_py : ∀ d : D, purD d = true → ∃ p, PurOk d p
  | .non, _ => ⟨.none, rfl, rfl, rfl⟩
  | .bl b, _ => ⟨.bool b, rfl, rfl, rfl⟩
  | .int i, _ => ⟨.int i, rfl, rfl, rfl⟩
  | .str x, h => ⟨.str x, rfl, (by have h1 : PyData.strOk x = true := (by simpa [purD] using h); exact h1), rfl⟩
  | .tup xs, h => by
    obtain ⟨ps, q⟩ := purDs_py xs (by simpa [purD] using h)
    refine ⟨.tuple ps, ?_, ?_, ?_⟩
    · unfold toPyR; rw [q.py]; rfl
    · simpa [PyData.canLay0] using q.lay
    · simp only [PyData.depth, dpD, q.dep]
  | .lst xs, h => by
    obtain ⟨ps, q⟩ := purDs_py xs (by simpa [purD] using h)
    refine ⟨.list ps, ?_, ?_, ?_⟩
    · unfold toPyR; rw [q.py]; rfl
    · simpa [PyData.canLay0] using q.lay
    · simp only [PyData.depth, dpD, q.dep]
  | .ref _, h => by simp [purD] at h
  | .gl _, h => by simp [purD] at h
  | .ty _, h => by simp [purD] at h
  | .ptp _, h => by simp [purD] at h
  | .exc _ _ _, h => by simp [purD] at h
  | .adr _ _, h => by simp [purD] at h
theorem purDs_py : ∀ ds : List D, purDs ds = true → ∃ ps, PursOk ds ps
  | [], _ => ⟨[], rfl, rfl, rfl⟩
  | x :: xs, h => by
    have h' : purD x = true ∧ purDs xs = true := by simpa [purDs] using h
    obtain ⟨p, q⟩ := purD_py x h'.1
    obtain ⟨ps, qs⟩ := purDs_py xs h'.2
    refine ⟨p :: ps, ?_, ?_, ?_⟩
    · unfold toPysR; rw [q.py, qs.py]; rfl
    · simp only [PyData.canLayAll0, q.lay, qs.lay, Bool.and_self]
    · simp only [PyData.depthAll, dpDs, q.dep, qs.dep]
end
theorem pur_shaped {d : D} {p : PyData} (h : PurOk d p) (hd : dpD d ≤ 64) : SeqAt.shaped p = true := by
  unfold SeqAt.shaped
  rw [h.lay, h.dep]
  simpa using hd
theorem pur_toPy {d : D} {p : PyData} (h : PurOk d p) (M : Mem) : toPy M d = some p := toPyR_mono _ _ _ h.py
/-- what a value is, told in full: a list of the memory, too -/
structure Vl (M : Mem) (d : D) (p : PyData) : Prop where
  py : toPy M d = some p
  lay : SeqAt.shaped p = true
theorem vl_pur {d : D} (h : purD d = true) (hd : dpD d ≤ 64) (M : Mem) : ∃ p, Vl M d p ∧ toPyR (fun _ => none) d = some p := by
  obtain ⟨p, q⟩ := purD_py d h
  exact ⟨p, ⟨pur_toPy q M, pur_shaped q hd⟩, q.py⟩
theorem vl_ref {M : Mem} {n : Nat} {xs : List D} (hn : M[n]? = some (.lst xs)) (h : purD (.lst xs) = true) (hd : dpD (.lst xs) ≤ 64) : ∃ p, Vl M (.ref n) p ∧ toPyR (fun _ => none) (.lst xs) = some p := by
  obtain ⟨p, q⟩ := purD_py _ h
  refine ⟨p, ⟨?_, pur_shaped q hd⟩, q.py⟩
  show rsN M 3 n = some p
  unfold rsN
  rw [hn]
  have z := q.py
  unfold toPyR at z
  cases hp : toPysR (fun _ => none) xs with
  | none => rw [hp] at z; cases z
  | some ps =>
    rw [hp] at z
    cases z
    show (toPysR (rsN M 2) xs).map PyData.list = _
    rw [toPysR_mono _ _ _ hp]; rfl
theorem eqD_gen {M : Mem} {a b : D} {p q : PyData} (ha : Vl M a p) (hb : Vl M b q) (hs : (∃ x, a = .tup x) ∨ (∃ x, a = .lst x) ∨ (∃ n, a = .ref n)) : eqD M a b = some (PyData.eqv p q) := by
  have key : (match toPy M a, toPy M b with
    | some p, some q => if SeqAt.shaped p && SeqAt.shaped q then some (PyData.eqv p q) else none
    | _, _ => none) = some (PyData.eqv p q) := by
    rw [ha.py, hb.py]
    dsimp only
    rw [ha.lay, hb.lay]; rfl
  rcases hs with ⟨x, rfl⟩ | ⟨x, rfl⟩ | ⟨n, rfl⟩ <;> exact key
theorem eqD_pur {d : D} (h : purD d = true) (hd : dpD d ≤ 64) (M : Mem) : eqD M d d = some true := by
  obtain ⟨p, q⟩ := purD_py d h
  have e := pur_toPy q M
  have hs := pur_shaped q hd
  have key : (match toPy M d, toPy M d with
    | some p, some q => if SeqAt.shaped p && SeqAt.shaped q then some (PyData.eqv p q) else none
    | _, _ => none) = some true := by
    rw [e]
    dsimp only
    rw [hs]
    show (if true = true then _ else _) = _
    rw [if_pos rfl, PySem.SeqAt.eqv_refl p q.lay]
  cases d with
  | int i => simp [eqD]
  | str x => simp [eqD]
  | non => rfl
  | bl b => simp [eqD]
  | ref n => simp [purD] at h
  | gl n => simp [purD] at h
  | ty n => simp [purD] at h
  | ptp n => simp [purD] at h
  | exc n m k => simp [purD] at h
  | adr n m => simp [purD] at h
  | tup xs => exact key
  | lst xs => exact key
theorem eqD_ref_nil {M : Mem} {n : Nat} {xs : List D} (hn : M[n]? = some (.lst xs)) (h : purDs xs = true) (hd : dpDs xs ≤ 60) : eqD M (.ref n) (.lst []) = some xs.isEmpty := by
  obtain ⟨p, v, e⟩ := vl_ref hn (by simpa [purD] using h) (by simp; omega)
  have v2 : Vl M (.lst []) (.list []) := ⟨rfl, rfl⟩
  rw [eqD_gen v v2 (.inr (.inr ⟨n, rfl⟩))]
  unfold toPyR at e
  cases hp : toPysR (fun _ => none) xs with
  | none => rw [hp] at e; cases e
  | some ps =>
    rw [hp] at e
    cases e
    congr 1
    cases xs with
    | nil => cases hp; rfl
    | cons x xs =>
      unfold toPysR at hp
      cases h1 : toPyR (fun _ => none) x with
      | none => rw [h1] at hp; cases hp
      | some q =>
        rw [h1] at hp
        cases h2 : toPysR (fun _ => none) xs with
        | none => rw [h2] at hp; cases hp
        | some qs => rw [h2] at hp; cases hp; rfl
theorem eqD_lst_nil {M : Mem} {xs : List D} (h : purDs xs = true) (hd : dpDs xs ≤ 60) : eqD M (.lst xs) (.lst []) = some xs.isEmpty := by
  obtain ⟨p, v, e⟩ := vl_pur (d := .lst xs) (by simpa [purD] using h) (by simp; omega) M
  have v2 : Vl M (.lst []) (.list []) := ⟨rfl, rfl⟩
  rw [eqD_gen v v2 (.inr (.inl ⟨xs, rfl⟩))]
  unfold toPyR at e
  cases hp : toPysR (fun _ => none) xs with
  | none => rw [hp] at e; cases e
  | some ps =>
    rw [hp] at e
    cases e
    congr 1
    cases xs with
    | nil => cases hp; rfl
    | cons x xs =>
      unfold toPysR at hp
      cases h1 : toPyR (fun _ => none) x with
      | none => rw [h1] at hp; cases hp
      | some q =>
        rw [h1] at hp
        cases h2 : toPysR (fun _ => none) xs with
        | none => rw [h2] at hp; cases hp
        | some qs => rw [h2] at hp; cases hp; rfl
theorem eqD_lst_ref {M : Mem} {n : Nat} {xs : List D} (hn : M[n]? = some (.lst xs)) (h : purDs xs = true) (hd : dpDs xs ≤ 60) : eqD M (.lst xs) (.ref n) = some true := by
  obtain ⟨p, v, e⟩ := vl_ref hn (by simpa [purD] using h) (by simp; omega)
  obtain ⟨p', v', e'⟩ := vl_pur (d := .lst xs) (by simpa [purD] using h) (by simp; omega) M
  rw [e] at e'
  cases e'
  rw [eqD_gen v' v (.inr (.inl ⟨xs, rfl⟩))]
  obtain ⟨p2, q2⟩ := purD_py (.lst xs) (by simpa [purD] using h)
  have := q2.py.symm.trans e
  cases this
  rw [PySem.SeqAt.eqv_refl _ q2.lay]
@[simp] theorem purD_n : purD .non = true := rfl
@[simp] theorem purD_b {k : Bool} : purD (.bl k) = true := rfl
@[simp] theorem purD_i {i : Int} : purD (.int i) = true := rfl
@[simp] theorem purD_s {s : Str} : purD (.str s) = PyData.strOk s := by simp [purD]
@[simp] theorem purD_t {l : List D} : purD (.tup l) = purDs l := by simp [purD]
@[simp] theorem purD_l {l : List D} : purD (.lst l) = purDs l := by simp [purD]
@[simp] theorem purDs_n : purDs [] = true := rfl
@[simp] theorem purDs_c {x : D} {l : List D} : purDs (x :: l) = (purD x && purDs l) := by simp [purDs]
theorem purDs_of : ∀ {l : List D}, (∀ d ∈ l, purD d = true) → purDs l = true
  | [], _ => rfl
  | x :: l, h => by
    rw [purDs_c, h x (List.mem_cons_self ..), purDs_of fun d hd => h d (List.mem_cons_of_mem _ hd)]; rfl
theorem dpDs_of {k : Nat} : ∀ {l : List D}, (∀ d ∈ l, dpD d ≤ k) → dpDs l ≤ k
  | [], _ => by simp
  | x :: l, h => by
    rw [dpDs_c]
    have h1 := h x (List.mem_cons_self ..)
    have h2 := dpDs_of (k := k) fun d hd => h d (List.mem_cons_of_mem _ hd)
    omega
/-! ### kinds of values -/
section
variable {Q : D → Mem → Prop} {X : Exn → Mem → Prop} {M : Mem} {i : Int} {xs : List D} {s : Str}
@[simp] theorem isi_ii : wpE (gIsi [.int i, .ty "int"] M) Q X = Q (.bl true) M := rfl
@[simp] theorem isi_ib : wpE (gIsi [.int i, .ty "bool"] M) Q X = Q (.bl false) M := rfl
@[simp] theorem isi_tt : wpE (gIsi [.tup xs, .ty "tuple"] M) Q X = Q (.bl true) M := rfl
@[simp] theorem isi_it : wpE (gIsi [.int i, .ty "tuple"] M) Q X = Q (.bl false) M := rfl
@[simp] theorem isi_ss : wpE (gIsi [.str s, .ty "str"] M) Q X = Q (.bl true) M := rfl
@[simp] theorem isi_ll : wpE (gIsi [.lst xs, .ty "list"] M) Q X = Q (.bl true) M := rfl
end
theorem blsOf_map : ∀ l : List Bool, blsOf (l.map D.bl) = some l
  | [] => rfl
  | b :: l => by simp [blsOf, blsOf_map l]
@[simp] theorem gAll_w {Q : D → Mem → Prop} {X : Exn → Mem → Prop} {M : Mem} {l : List Bool} : wpE (gAll [.lst (l.map D.bl)] M) Q X = Q (.bl (l.all id)) M := by
  unfold gAll gAllB
  dsimp only
  rw [seqL_l]
  dsimp only [Option.bind]
  rw [blsOf_map]
  rfl
end Br
end
section
namespace Br
open PySem PySem.Spec L2
section
variable {Q : D → Mem → Prop} {X : Exn → Mem → Prop} {ρ : En} {M : Mem} {vs : List Nat} {fw : En → Mem → R Wk} {gg : FG} {tt : FT} {te : FE} {s1 : FStm} {n b c : En → Mem → Prop} {r : D → Mem → Prop} {x : Exn → En → Mem → Prop}
/-! ### short walks, turn by turn (not for simp: give them by name) -/
theorem lcGo_n {acc : List D} {QL : List D → Mem → Prop} : wpE (lcGo gg tt te ρ [] acc M) QL X = QL acc M := rfl
theorem lcGo_c {acc ys : List D} {y : D} {QL : List D → Mem → Prop} (h : wpS (gg y ρ M) (fun ρ1 M1 => wpE (tt ρ1 M1) (fun k M2 => (k = true → wpE (te ρ1 M2) (fun z M3 => acc.length < sizeLine ∧ wpE (lcGo gg tt te ρ ys (acc ++ [z]) M3) QL X) (fun _ _ => False)) ∧ (k = false → wpE (lcGo gg tt te ρ ys acc M2) QL X)) (fun _ _ => False)) (fun _ _ => False) (fun _ _ => False) (fun _ _ => False) (fun _ _ _ => False)) :
    wpE (lcGo gg tt te ρ (y :: ys) acc M) QL X := by
  rw [lcGo]
  cases hg : gg y ρ M with
  | go fl ρ1 M1 =>
    rw [hg] at h
    cases fl with
    | nx =>
      dsimp only
      have h2 : wpE (tt ρ1 M1) _ _ := h
      cases hk : tt ρ1 M1 with
      | ok k M2 =>
        rw [hk] at h2
        cases k with
        | true =>
          dsimp only
          have h3 := h2.1 rfl
          cases hz : te ρ1 M2 with
          | ok z M3 => rw [hz] at h3; dsimp only; rw [if_pos h3.1]; exact h3.2
          | ex e M3 => rw [hz] at h3; exact h3.elim
          | no => rw [hz] at h3; exact h3.elim
        | false => exact h2.2 rfl
      | ex e M2 => rw [hk] at h2; exact h2.elim
      | no => rw [hk] at h2; exact h2.elim
    | ret d => exact h.elim
    | bk => exact h.elim
    | ct => exact h.elim
  | ex e ρ1 M1 => rw [hg] at h; exact h.elim
  | no => rw [hg] at h; exact h.elim
theorem lcGo_ce {acc ys : List D} {y : D} {QL : List D → Mem → Prop} : wpE (lcGo gg tt te ρ (y :: ys) acc M) QL X = wpS (gg y ρ M) (fun ρ1 M1 => wpE (tt ρ1 M1) (fun k M2 => (k = true → wpE (te ρ1 M2) (fun z M3 => acc.length < sizeLine ∧ wpE (lcGo gg tt te ρ ys (acc ++ [z]) M3) QL X) (fun _ _ => False)) ∧ (k = false → wpE (lcGo gg tt te ρ ys acc M2) QL X)) (fun _ _ => False)) (fun _ _ => False) (fun _ _ => False) (fun _ _ => False) (fun _ _ _ => False) := by
  refine propext ⟨fun h => ?_, lcGo_c⟩
  rw [lcGo] at h
  cases hg : gg y ρ M with
  | go fl ρ1 M1 =>
    rw [hg] at h
    cases fl with
    | nx =>
      dsimp only at h
      show wpE (tt ρ1 M1) _ _
      cases hk : tt ρ1 M1 with
      | ok k M2 =>
        rw [hk] at h
        cases k with
        | true =>
          dsimp only at h
          refine ⟨fun _ => ?_, fun z => Bool.noConfusion z⟩
          cases hz : te ρ1 M2 with
          | ok z M3 =>
            rw [hz] at h; dsimp only at h
            by_cases hl : acc.length < sizeLine
            · rw [if_pos hl] at h; exact ⟨hl, h⟩
            · rw [if_neg hl] at h; exact h.elim
          | ex e M3 => rw [hz] at h; exact h.elim
          | no => rw [hz] at h; exact h.elim
        | false => exact ⟨fun z => Bool.noConfusion z, fun _ => h⟩
      | ex e M2 => rw [hk] at h; exact h.elim
      | no => rw [hk] at h; exact h.elim
    | ret d => exact h.elim
    | bk => exact h.elim
    | ct => exact h.elim
  | ex e ρ1 M1 => rw [hg] at h; exact h.elim
  | no => rw [hg] at h; exact h.elim
theorem sFor_n : wpS (sFor gg s1 [] ρ M) n r b c x = n ρ M := rfl
theorem sFor_c {y : D} {ys : List D} (h : wpS (gg y ρ M) (fun ρ M => wpS (s1 ρ M) (fun ρ M => wpS (sFor gg s1 ys ρ M) n r b c x) r n (fun ρ M => wpS (sFor gg s1 ys ρ M) n r b c x) x) (fun _ _ => False) (fun _ _ => False) (fun _ _ => False) (fun _ _ _ => False)) : wpS (sFor gg s1 (y :: ys) ρ M) n r b c x := by
  rw [sFor]; unfold turn
  cases hg : gg y ρ M with
  | go fl ρ1 M1 =>
    rw [hg] at h
    cases fl with
    | nx =>
      dsimp only
      have h2 : wpS (s1 ρ1 M1) _ _ _ _ _ := h
      cases hs : s1 ρ1 M1 with
      | go fl ρ2 M2 => rw [hs] at h2; cases fl <;> exact h2
      | ex e ρ2 M2 => rw [hs] at h2; exact h2
      | no => rw [hs] at h2; exact h2.elim
    | ret d => exact h.elim
    | bk => exact h.elim
    | ct => exact h.elim
  | ex e ρ1 M1 => rw [hg] at h; exact h.elim
  | no => rw [hg] at h; exact h.elim
theorem sFor_ce {y : D} {ys : List D} : wpS (sFor gg s1 (y :: ys) ρ M) n r b c x = wpS (gg y ρ M) (fun ρ M => wpS (s1 ρ M) (fun ρ M => wpS (sFor gg s1 ys ρ M) n r b c x) r n (fun ρ M => wpS (sFor gg s1 ys ρ M) n r b c x) x) (fun _ _ => False) (fun _ _ => False) (fun _ _ => False) (fun _ _ _ => False) := by
  refine propext ⟨fun h => ?_, sFor_c⟩
  rw [sFor] at h; unfold turn at h
  cases hg : gg y ρ M with
  | go fl ρ1 M1 =>
    rw [hg] at h
    cases fl with
    | nx =>
      dsimp only at h
      show wpS (s1 ρ1 M1) _ _ _ _ _
      cases hs : s1 ρ1 M1 with
      | go fl ρ2 M2 => rw [hs] at h; cases fl <;> exact h
      | ex e ρ2 M2 => rw [hs] at h; exact h
      | no => rw [hs] at h; exact h.elim
    | ret d => exact h.elim
    | bk => exact h.elim
    | ct => exact h.elim
  | ex e ρ1 M1 => rw [hg] at h; exact h.elim
  | no => rw [hg] at h; exact h.elim
@[simp] theorem sForW_i {m : Nat} {ds : List D} : sForW m (.items ds) gg s1 = sFor gg s1 ds := rfl
/-! ### more operations -/
@[simp] theorem wZipS_w {QK : Wk → Mem → Prop} {g : FA} : wpE (wZipS g ρ M) QK X = wpE (g ρ M) (fun ds M => match ds with
    | [.str z, .lst ys] => ys.length = z.cps.size ∧ QK (.items (zipSD z ys)) M
    | _ => False) X := by
  unfold wZipS; rw [wpE_bind]
  congr 1; funext ds M
  split
  · rename_i z ys
    by_cases h : ys.length = z.cps.size <;> simp [h]
  · rename_i h
    first
    | rfl
    | (split
       · rename_i z ys; exact absurd rfl (h _ _)
       · rfl)
@[simp] theorem wRng1_w {QK : Wk → Mem → Prop} {g : FA} : wpE (wRng1 g ρ M) QK X = wpE (g ρ M) (fun ds M => match ds with
    | [.int j] => (-(2 ^ 62) ≤ j ∧ j < 2 ^ 62) ∧ QK (.items (rangeD 0 j.toNat)) M
    | _ => False) X := by
  unfold wRng1; rw [wpE_bind]
  congr 1; funext ds M
  split
  · rename_i j
    by_cases h : -(2 ^ 62) ≤ j ∧ j < 2 ^ 62
    · rw [if_pos h]; exact propext ⟨fun k => ⟨h, k⟩, fun k => k.2⟩
    · rw [if_neg h]; exact propext ⟨fun k => k.elim, fun k => absurd k.1 h⟩
  · rename_i h
    first
    | rfl
    | (split
       · rename_i j; exact absurd rfl (h _)
       · rfl)
@[simp] theorem gStar_w {gs : List D → FStm} {y : D} {ys : List D} : wpS (gStar gs (.tup (y :: ys)) ρ M) n r b c x = (ys.length < 16384 ∧ wpS (gs [y, .lst ys] ρ M) n r b c x) := by
  unfold gStar; dsimp only
  by_cases h : ys.length < 16384
  · rw [if_pos h]; exact propext ⟨fun k => ⟨h, k⟩, fun k => k.2⟩
  · rw [if_neg h]; exact propext ⟨fun k => k.elim, fun k => absurd k.1 h⟩
@[simp] theorem gInK_w {nm : Str} {kvs : List (Str × Str)} {neg : Bool} {z : Str} : wpE (gInK nm kvs neg (.str z) (.gl nm) M) Q X = Q (.bl (if neg then !(kvs.lookup z).isSome else (kvs.lookup z).isSome)) M := by
  unfold gInK; dsimp only; rw [if_pos rfl]; rfl
@[simp] theorem gIxK_w {nm : Str} {kvs : List (Str × Str)} {z : Str} : wpE (gIxK nm kvs (.gl nm) (.str z) M) Q X = wpO (kvs.lookup z) (fun v => Q (.str v) M) := by
  unfold gIxK; dsimp only; rw [if_pos rfl]; cases kvs.lookup z <;> rfl
end
end Br
end
section
namespace Br
open PySem PySem.Spec L2
@[simp] theorem lb1 : ((("K" : Str) == ("A" : Str))) = false := by decide
@[simp] theorem le1 : ((("K" : Str) = ("A" : Str))) = False := eq_false (by decide)
@[simp] theorem lb2 : ((("K" : Str) == ("C" : Str))) = false := by decide
@[simp] theorem le2 : ((("K" : Str) = ("C" : Str))) = False := eq_false (by decide)
@[simp] theorem lb3 : ((("K" : Str) == ("V" : Str))) = false := by decide
@[simp] theorem le3 : ((("K" : Str) = ("V" : Str))) = False := eq_false (by decide)
@[simp] theorem lb4 : ((("K" : Str) == ("Z" : Str))) = false := by decide
@[simp] theorem le4 : ((("K" : Str) = ("Z" : Str))) = False := eq_false (by decide)
@[simp] theorem lb5 : ((("K" : Str) == ("N" : Str))) = false := by decide
@[simp] theorem le5 : ((("K" : Str) = ("N" : Str))) = False := eq_false (by decide)
@[simp] theorem lb6 : ((("A" : Str) == ("K" : Str))) = false := by decide
@[simp] theorem le6 : ((("A" : Str) = ("K" : Str))) = False := eq_false (by decide)
@[simp] theorem lb7 : ((("A" : Str) == ("C" : Str))) = false := by decide
@[simp] theorem le7 : ((("A" : Str) = ("C" : Str))) = False := eq_false (by decide)
@[simp] theorem lb8 : ((("A" : Str) == ("V" : Str))) = false := by decide
@[simp] theorem le8 : ((("A" : Str) = ("V" : Str))) = False := eq_false (by decide)
@[simp] theorem lb9 : ((("A" : Str) == ("Z" : Str))) = false := by decide
@[simp] theorem le9 : ((("A" : Str) = ("Z" : Str))) = False := eq_false (by decide)
@[simp] theorem lb10 : ((("A" : Str) == ("N" : Str))) = false := by decide
@[simp] theorem le10 : ((("A" : Str) = ("N" : Str))) = False := eq_false (by decide)
@[simp] theorem lb11 : ((("C" : Str) == ("K" : Str))) = false := by decide
@[simp] theorem le11 : ((("C" : Str) = ("K" : Str))) = False := eq_false (by decide)
@[simp] theorem lb12 : ((("C" : Str) == ("A" : Str))) = false := by decide
@[simp] theorem le12 : ((("C" : Str) = ("A" : Str))) = False := eq_false (by decide)
@[simp] theorem lb13 : ((("C" : Str) == ("V" : Str))) = false := by decide
@[simp] theorem le13 : ((("C" : Str) = ("V" : Str))) = False := eq_false (by decide)
@[simp] theorem lb14 : ((("C" : Str) == ("Z" : Str))) = false := by decide
@[simp] theorem le14 : ((("C" : Str) = ("Z" : Str))) = False := eq_false (by decide)
@[simp] theorem lb15 : ((("C" : Str) == ("N" : Str))) = false := by decide
@[simp] theorem le15 : ((("C" : Str) = ("N" : Str))) = False := eq_false (by decide)
@[simp] theorem lb16 : ((("V" : Str) == ("K" : Str))) = false := by decide
@[simp] theorem le16 : ((("V" : Str) = ("K" : Str))) = False := eq_false (by decide)
@[simp] theorem lb17 : ((("V" : Str) == ("A" : Str))) = false := by decide
@[simp] theorem le17 : ((("V" : Str) = ("A" : Str))) = False := eq_false (by decide)
@[simp] theorem lb18 : ((("V" : Str) == ("C" : Str))) = false := by decide
@[simp] theorem le18 : ((("V" : Str) = ("C" : Str))) = False := eq_false (by decide)
@[simp] theorem lb19 : ((("V" : Str) == ("Z" : Str))) = false := by decide
@[simp] theorem le19 : ((("V" : Str) = ("Z" : Str))) = False := eq_false (by decide)
@[simp] theorem lb20 : ((("V" : Str) == ("N" : Str))) = false := by decide
@[simp] theorem le20 : ((("V" : Str) = ("N" : Str))) = False := eq_false (by decide)
@[simp] theorem lb21 : ((("Z" : Str) == ("K" : Str))) = false := by decide
@[simp] theorem le21 : ((("Z" : Str) = ("K" : Str))) = False := eq_false (by decide)
@[simp] theorem lb22 : ((("Z" : Str) == ("A" : Str))) = false := by decide
@[simp] theorem le22 : ((("Z" : Str) = ("A" : Str))) = False := eq_false (by decide)
@[simp] theorem lb23 : ((("Z" : Str) == ("C" : Str))) = false := by decide
@[simp] theorem le23 : ((("Z" : Str) = ("C" : Str))) = False := eq_false (by decide)
@[simp] theorem lb24 : ((("Z" : Str) == ("V" : Str))) = false := by decide
@[simp] theorem le24 : ((("Z" : Str) = ("V" : Str))) = False := eq_false (by decide)
@[simp] theorem lb25 : ((("Z" : Str) == ("N" : Str))) = false := by decide
@[simp] theorem le25 : ((("Z" : Str) = ("N" : Str))) = False := eq_false (by decide)
@[simp] theorem lb26 : ((("N" : Str) == ("K" : Str))) = false := by decide
@[simp] theorem le26 : ((("N" : Str) = ("K" : Str))) = False := eq_false (by decide)
@[simp] theorem lb27 : ((("N" : Str) == ("A" : Str))) = false := by decide
@[simp] theorem le27 : ((("N" : Str) = ("A" : Str))) = False := eq_false (by decide)
@[simp] theorem lb28 : ((("N" : Str) == ("C" : Str))) = false := by decide
@[simp] theorem le28 : ((("N" : Str) = ("C" : Str))) = False := eq_false (by decide)
@[simp] theorem lb29 : ((("N" : Str) == ("V" : Str))) = false := by decide
@[simp] theorem le29 : ((("N" : Str) = ("V" : Str))) = False := eq_false (by decide)
@[simp] theorem lb30 : ((("N" : Str) == ("Z" : Str))) = false := by decide
@[simp] theorem le30 : ((("N" : Str) = ("Z" : Str))) = False := eq_false (by decide)
@[simp] theorem size__ : ("" : Str).cps.size = 0 := by decide
@[simp] theorem zip__  : zipSD ("" : Str) [] = [] := rfl
@[simp] theorem slen__ {M : Mem} {Q : D → Mem → Prop} {X : Exn → Mem → Prop} : wpE (gLen [.str ("" : Str)] M) Q X = Q (.int 0) M := rfl
@[simp] theorem size_K : ("K" : Str).cps.size = 1 := by decide
@[simp] theorem zip_K {a : D} : zipSD ("K" : Str) [a] = [D.tup [D.str ("K" : Str), a]] := rfl
@[simp] theorem slen_K {M : Mem} {Q : D → Mem → Prop} {X : Exn → Mem → Prop} : wpE (gLen [.str ("K" : Str)] M) Q X = Q (.int 1) M := rfl
@[simp] theorem size_ZC : ("ZC" : Str).cps.size = 2 := by decide
@[simp] theorem zip_ZC {a b : D} : zipSD ("ZC" : Str) [a, b] = [D.tup [D.str ("Z" : Str), a], D.tup [D.str ("C" : Str), b]] := rfl
@[simp] theorem slen_ZC {M : Mem} {Q : D → Mem → Prop} {X : Exn → Mem → Prop} : wpE (gLen [.str ("ZC" : Str)] M) Q X = Q (.int 2) M := rfl
@[simp] theorem size_NC : ("NC" : Str).cps.size = 2 := by decide
@[simp] theorem zip_NC {a b : D} : zipSD ("NC" : Str) [a, b] = [D.tup [D.str ("N" : Str), a], D.tup [D.str ("C" : Str), b]] := rfl
@[simp] theorem slen_NC {M : Mem} {Q : D → Mem → Prop} {X : Exn → Mem → Prop} : wpE (gLen [.str ("NC" : Str)] M) Q X = Q (.int 2) M := rfl
@[simp] theorem size_C : ("C" : Str).cps.size = 1 := by decide
@[simp] theorem zip_C {a : D} : zipSD ("C" : Str) [a] = [D.tup [D.str ("C" : Str), a]] := rfl
@[simp] theorem slen_C {M : Mem} {Q : D → Mem → Prop} {X : Exn → Mem → Prop} : wpE (gLen [.str ("C" : Str)] M) Q X = Q (.int 1) M := rfl
@[simp] theorem size_NNC : ("NNC" : Str).cps.size = 3 := by decide
@[simp] theorem zip_NNC {a b c : D} : zipSD ("NNC" : Str) [a, b, c] = [D.tup [D.str ("N" : Str), a], D.tup [D.str ("N" : Str), b], D.tup [D.str ("C" : Str), c]] := rfl
@[simp] theorem slen_NNC {M : Mem} {Q : D → Mem → Prop} {X : Exn → Mem → Prop} : wpE (gLen [.str ("NNC" : Str)] M) Q X = Q (.int 3) M := rfl
@[simp] theorem size_NK : ("NK" : Str).cps.size = 2 := by decide
@[simp] theorem zip_NK {a b : D} : zipSD ("NK" : Str) [a, b] = [D.tup [D.str ("N" : Str), a], D.tup [D.str ("K" : Str), b]] := rfl
@[simp] theorem slen_NK {M : Mem} {Q : D → Mem → Prop} {X : Exn → Mem → Prop} : wpE (gLen [.str ("NK" : Str)] M) Q X = Q (.int 2) M := rfl
@[simp] theorem size_VK : ("VK" : Str).cps.size = 2 := by decide
@[simp] theorem zip_VK {a b : D} : zipSD ("VK" : Str) [a, b] = [D.tup [D.str ("V" : Str), a], D.tup [D.str ("K" : Str), b]] := rfl
@[simp] theorem slen_VK {M : Mem} {Q : D → Mem → Prop} {X : Exn → Mem → Prop} : wpE (gLen [.str ("VK" : Str)] M) Q X = Q (.int 2) M := rfl
@[simp] theorem size_CC : ("CC" : Str).cps.size = 2 := by decide
@[simp] theorem zip_CC {a b : D} : zipSD ("CC" : Str) [a, b] = [D.tup [D.str ("C" : Str), a], D.tup [D.str ("C" : Str), b]] := rfl
@[simp] theorem slen_CC {M : Mem} {Q : D → Mem → Prop} {X : Exn → Mem → Prop} : wpE (gLen [.str ("CC" : Str)] M) Q X = Q (.int 2) M := rfl
@[simp] theorem size_A : ("A" : Str).cps.size = 1 := by decide
@[simp] theorem zip_A {a : D} : zipSD ("A" : Str) [a] = [D.tup [D.str ("A" : Str), a]] := rfl
@[simp] theorem slen_A {M : Mem} {Q : D → Mem → Prop} {X : Exn → Mem → Prop} : wpE (gLen [.str ("A" : Str)] M) Q X = Q (.int 1) M := rfl
end Br
end
section
namespace Br
open PySem PySem.Spec L2
theorem eqD_tup_nil {M : Mem} {xs : List D} (h : purDs xs = true) (hd : dpDs xs ≤ 60) : eqD M (.tup xs) (.tup []) = some xs.isEmpty := by
  obtain ⟨p, v, e⟩ := vl_pur (d := .tup xs) (by simpa [purD] using h) (by simp; omega) M
  have v2 : Vl M (.tup []) (.tuple []) := ⟨rfl, rfl⟩
  rw [eqD_gen v v2 (.inl ⟨xs, rfl⟩)]
  unfold toPyR at e
  cases hp : toPysR (fun _ => none) xs with
  | none => rw [hp] at e; cases e
  | some ps =>
    rw [hp] at e
    cases e
    congr 1
    cases xs with
    | nil => cases hp; rfl
    | cons x xs =>
      unfold toPysR at hp
      cases h1 : toPyR (fun _ => none) x with
      | none => rw [h1] at hp; cases hp
      | some q =>
        rw [h1] at hp
        cases h2 : toPysR (fun _ => none) xs with
        | none => rw [h2] at hp; cases hp
        | some qs => rw [h2] at hp; cases hp; rfl
@[simp] theorem purD_tupI {l : List Int} : purD (tupI l) = true := by
  have : purDs (l.map D.int) = true := purDs_of fun d hd => by
    obtain ⟨z, _, rfl⟩ := List.mem_map.mp hd
    rfl
  simp [tupI, this]
theorem dpD_tupI (l : List Int) : dpD (tupI l) ≤ 1 := by
  have : dpDs (l.map D.int) ≤ 0 := dpDs_of fun d hd => by
    obtain ⟨z, _, rfl⟩ := List.mem_map.mp hd
    simp
  simp [tupI]; omega
end Br
end
section
namespace Br
open PySem PySem.Spec L2
section
variable {Q : D → Mem → Prop} {X : Exn → Mem → Prop} {ρ : En} {M : Mem} {s1 s2 : FStm} {t : FT} {n b c : En → Mem → Prop} {r : D → Mem → Prop} {x : Exn → En → Mem → Prop}
/-! ### cuts -/
theorem sSeq_cut (P : En → Mem → Prop) (h1 : wpS (s1 ρ M) P r b c x) (h2 : ∀ ρ' M', P ρ' M' → wpS (s2 ρ' M') n r b c x) : wpS (sSeq s1 s2 ρ M) n r b c x := by
  rw [sSeq_w]
  exact wpS_mono h1 h2 (fun _ _ h => h) (fun _ _ h => h) (fun _ _ h => h) (fun _ _ _ h => h)
theorem sIf_cut (P : Bool → Mem → Prop) (h : wpE (t ρ M) P (fun _ _ => False)) (h1 : ∀ M', P true M' → wpS (s1 ρ M') n r b c x) (h2 : ∀ M', P false M' → wpS (s2 ρ M') n r b c x) : wpS (sIf t s1 s2 ρ M) n r b c x := by
  rw [sIf_w]
  refine wpE_mono h (fun k M' hk => ?_) fun _ _ z => z.elim
  cases k with
  | true => exact ⟨fun _ => h1 _ hk, fun z => Bool.noConfusion z⟩
  | false => exact ⟨fun z => Bool.noConfusion z, fun _ => h2 _ hk⟩
theorem sAsg_cut {f : FE} {gg : FG} (P : D → Mem → Prop) (h : wpE (f ρ M) P (fun _ _ => False)) (h1 : ∀ d M', P d M' → wpS (gg d ρ M') n r b c x) : wpS (sAsg f gg ρ M) n r b c x := by
  rw [sAsg_w]
  exact wpE_mono h h1 fun _ _ z => z.elim
theorem run_cut {f : FStm} {k : Nat} {ds : List D} {d : D} (h : wpS (f (st0 k ds) M) (fun _ _ => False) (fun v M' => v = d ∧ Q .non M') (fun _ _ => False) (fun _ _ => False) (fun _ _ _ => False)) : ∃ M', run f k ds M = .ok d M' ∧ Q .non M' := by
  have : wpE (run f k ds M) (fun v M' => v = d ∧ Q .non M') (fun _ _ => False) := by
    rw [run_w]
    exact wpS_mono h (fun _ _ z => z.elim) (fun _ _ z => z) (fun _ _ z => z.elim) (fun _ _ z => z.elim) (fun _ _ _ z => z.elim)
  cases hr : run f k ds M with
  | ok v M' => rw [hr] at this; obtain ⟨e, hq⟩ := this; subst e; exact ⟨M', rfl, hq⟩
  | ex e M' => rw [hr] at this; exact this.elim
  | no => rw [hr] at this; exact this.elim
theorem wpE_ok_of {α : Type} {rr : R α} {P : α → Mem → Prop} {Q : α → Mem → Prop} {X : Exn → Mem → Prop} (h : ∃ v M', rr = .ok v M' ∧ P v M') (k : ∀ v M', P v M' → Q v M') : wpE rr Q X := by
  obtain ⟨v, M', rfl, hp⟩ := h
  exact k _ _ hp
end
end Br
end
section
namespace Br
open PySem PySem.Spec L2
section
variable {Q : D → Mem → Prop} {X : Exn → Mem → Prop} {ρ : En} {M : Mem} {gg : FG} {tt : FT} {te f a b : FE} {n' b' c' : En → Mem → Prop} {r' : D → Mem → Prop} {x' : Exn → En → Mem → Prop}
/-! ### comprehensions over a list of the memory -/
@[simp] theorem lcW_o {n : Nat} {QL : List D → Mem → Prop} : wpE (lcW gg tt te ρ (.obj n) M) QL X = wpE (lcGoL gg tt te ρ n 100000 0 [] M) QL X := rfl
theorem lcl_pure {QL : List D → Mem → Prop} (p : D → Bool) (f : D → D) {n m : Nat} {ds : List D} (hn : M[n]? = some (.lst ds)) (hl : ds.length ≤ sizeLine) (hm : ds.length < m)
    (ht : ∀ y ∈ ds, wpS (gg y ρ M) (fun ρ1 M1 => M1 = M ∧ wpE (tt ρ1 M) (fun k M2 => (M2 = M ∧ k = p y) ∧ (k = true → wpE (te ρ1 M) (fun z M3 => M3 = M ∧ z = f y) (fun _ _ => False))) (fun _ _ => False)) (fun _ _ => False) (fun _ _ => False) (fun _ _ => False) (fun _ _ _ => False))
    (h : QL ((ds.filter p).map f) M) : wpE (lcGoL gg tt te ρ n m 0 [] M) QL X := by
  have key : ∀ (m i : Nat), ds.length < m + i → i ≤ ds.length → wpE (lcGoL gg tt te ρ n m i (((ds.take i).filter p).map f) M) QL X := by
    intro m
    induction m with
    | zero => intro i h1 h2; omega
    | succ m ih =>
      intro i h1 h2
      unfold lcGoL
      rw [hn]
      dsimp only
      by_cases hi : i < ds.length
      · have e : ds[i]? = some ds[i] := by simp [hi]
        rw [e]
        dsimp only
        have hm2 : ds[i] ∈ ds := List.getElem_mem hi
        have h3 := ht _ hm2
        have et : ds.take (i + 1) = ds.take i ++ [ds[i]] := by rw [List.take_add_one, e]; rfl
        have hlen : (((ds.take i).filter p).map f).length < sizeLine := by
          have h5 := List.length_filter_le p (ds.take i)
          rw [List.length_map]
          rw [List.length_take] at h5
          omega
        have ih2 := ih (i + 1) (by omega) (by omega)
        rw [et, List.filter_append, List.map_append] at ih2
        cases hg : gg ds[i] ρ M with
        | go fl ρ1 M1 =>
          rw [hg] at h3
          cases fl with
          | nx =>
            obtain ⟨e1, h3⟩ : M1 = M ∧ _ := h3
            subst e1
            dsimp only
            cases hk : tt ρ1 M1 with
            | ok k M2 =>
              rw [hk] at h3
              obtain ⟨⟨e2, e3⟩, h4⟩ : (M2 = M1 ∧ k = p ds[i]) ∧ _ := h3
              subst e2
              cases k with
              | true =>
                dsimp only
                have h5 := h4 rfl
                cases hz : te ρ1 M2 with
                | ok z M3 =>
                  rw [hz] at h5
                  obtain ⟨e4, e5⟩ : M3 = M2 ∧ z = f ds[i] := h5
                  subst e4; subst e5
                  dsimp only
                  rw [if_pos hlen]
                  simp only [List.filter_cons, ← e3, if_true, List.filter_nil, List.map_cons, List.map_nil] at ih2
                  exact ih2
                | ex e M3 => rw [hz] at h5; exact h5.elim
                | no => rw [hz] at h5; exact h5.elim
              | false =>
                dsimp only
                simp only [List.filter_cons, ← e3, Bool.false_eq_true, if_false, List.filter_nil, List.map_nil, List.append_nil] at ih2
                exact ih2
            | ex e M2 => rw [hk] at h3; exact h3.elim
            | no => rw [hk] at h3; exact h3.elim
          | ret d => exact h3.elim
          | bk => exact h3.elim
          | ct => exact h3.elim
        | ex e ρ1 M1 => rw [hg] at h3; exact h3.elim
        | no => rw [hg] at h3; exact h3.elim
      · have e2 : i = ds.length := by omega
        subst e2
        rw [List.getElem?_eq_none (Nat.le_refl _)]
        dsimp only
        rw [List.take_length]
        exact h
  exact key m 0 (by omega) (Nat.zero_le _)
/-! ### dicts, ranges, list times number -/
def dicO (o : Option MO) : Option (List (Key × D)) := match o with
  | some (.dic kvs) => some kvs
  | _ => none
@[simp] theorem dicO_s {kvs : List (Key × D)} : dicO (some (.dic kvs)) = some kvs := rfl
@[simp] theorem keyD_i {i : Int} : keyD (.int i) = some (.inl i) := rfl
@[simp] theorem keyD_s {z : Str} : keyD (.str z) = some (.inr z) := rfl
@[simp] theorem gDIn_w {neg : Bool} {n : Nat} {y : D} : wpE (gDIn neg y (.ref n) M) Q X = wpO (keyD y) (fun k => wpO (dicO M[n]?) (fun kvs => Q (.bl (if neg then !(valD kvs k).isSome else (valD kvs k).isSome)) M)) := by
  unfold gDIn
  cases keyD y with
  | none => rfl
  | some k =>
    dsimp only [wpO]
    all_goals (rcases M[n]? with _ | o <;> first | rfl | (cases o <;> rfl))
@[simp] theorem gDIx_w {n : Nat} {y : D} : wpE (gDIx (.ref n) y M) Q X = wpO (keyD y) (fun k => wpO (dicO M[n]?) (fun kvs => wpO (valD kvs k) (fun d => Q d M))) := by
  unfold gDIx
  cases keyD y with
  | none => rfl
  | some k =>
    dsimp only [wpO]
    cases M[n]? with
    | none => rfl
    | some o =>
      cases o with
      | dic kvs => dsimp only [dicO]; cases valD kvs k <;> rfl
      | _ => rfl
@[simp] theorem eDGet_w : wpE (eDGet a b ρ M) Q X = wpE (a ρ M) (fun x M1 => wpR x (fun n => wpO (dicO M1[n]?) (fun _ => wpE (b ρ M1) (fun y M2 => wpO (keyD y) (fun k => wpO (dicO M2[n]?) (fun kvs => Q ((valD kvs k).getD .non) M2))) X))) X := by
  unfold eDGet
  rw [wpE_bind]
  congr 1; funext x M1
  cases x with
  | ref n =>
    dsimp only [wpR]
    cases h : M1[n]? with
    | none => rfl
    | some o =>
      cases o with
      | dic kvs0 =>
        dsimp only [dicO, wpO]
        rw [wpE_bind]
        congr 1; funext y M2
        cases keyD y with
        | none => rfl
        | some k =>
          cases h2 : M2[n]? with
          | none => rfl
          | some o2 => cases o2 <;> rfl
      | _ => rfl
  | _ => rfl
@[simp] theorem eDNew_w : wpE (eDNew ρ M) Q X = Q (.ref M.length) (M ++ [.dic []]) := rfl
@[simp] theorem putDD_w {P : Mem → Prop} {n : Nat} {y d : D} : wpO (putDD (.ref n) y d M) P = wpO (keyD y) (fun k => wpO (dicO M[n]?) (fun kvs => kvs.length < sizeLine ∧ P (M.set n (.dic (putKD kvs k d))))) := by
  unfold putDD
  cases keyD y with
  | none => rfl
  | some k =>
    dsimp only [wpO]
    cases M[n]? with
    | none => rfl
    | some o =>
      cases o with
      | dic kvs => dsimp only [dicO]; by_cases h : kvs.length < sizeLine <;> simp [h, wpO]
      | _ => rfl
@[simp] theorem gSbD_w {d : D} : wpS (gSbD a b d ρ M) n' r' b' c' x' = wpE (a ρ M) (fun o M1 => wpE (b ρ M1) (fun i M2 => wpO (putDD o i d M2) (fun M3 => n' ρ M3)) (fun e M => x' e ρ M)) (fun e M => x' e ρ M) := by
  unfold gSbD
  rw [wpS_of]
  congr 1; funext o M1
  rw [wpS_of]
  congr 1; funext i M2
  cases putDD o i d M2 <;> rfl
@[simp] theorem gRepL_w {n : Nat} {k : Int} : wpE (gRepL (.ref n) (.int k) M) Q X = wpO (lstO M[n]?) (fun xs => ((-(2 ^ 63) ≤ k ∧ k < 2 ^ 63) ∧ xs.length * k.toNat ≤ sizeLine) ∧ Q (.lst (List.replicate k.toNat xs).flatten) M) := by
  unfold gRepL
  dsimp only
  cases M[n]? with
  | none => rfl
  | some o =>
    cases o with
    | lst xs =>
      dsimp only [lstO, wpO]
      by_cases h : (-(2 ^ 63) ≤ k ∧ k < 2 ^ 63) ∧ xs.length * k.toNat ≤ sizeLine
      · rw [if_pos h]; exact propext ⟨fun z => ⟨h, z⟩, fun z => z.2⟩
      · rw [if_neg h]; exact propext ⟨fun z => z.elim, fun z => absurd z.1 h⟩
    | _ => rfl
@[simp] theorem eTupRg_w : wpE (eTupRg a ρ M) Q X = wpE (a ρ M) (fun d M1 => wpI d (fun n => (0 ≤ n ∧ n ≤ 16777216) ∧ Q (.tup (rangeD 0 n.toNat)) M1)) X := by
  unfold eTupRg
  rw [wpE_bind]
  congr 1; funext d M1
  cases d with
  | int n =>
    dsimp only [wpI]
    by_cases h : 0 ≤ n ∧ n ≤ 16777216
    · rw [if_pos h]; exact propext ⟨fun z => ⟨h, z⟩, fun z => z.2⟩
    · rw [if_neg h]; exact propext ⟨fun z => z.elim, fun z => absurd z.1 h⟩
  | _ => rfl
end
end Br
end
section
namespace Br
open PySem PySem.Spec L2
section
variable {Q : D → Mem → Prop} {X : Exn → Mem → Prop} {M : Mem} {a b : D}
@[simp] theorem gCatV_w : wpE (gCatV a b M) Q X = wpO (seqL M a) (fun xs => wpO (seqL M b) (fun ys => xs.length + ys.length ≤ sizeLine ∧ Q (.lst (xs ++ ys)) M)) := by
  unfold gCatV
  cases seqL M a with
  | none => rfl
  | some xs =>
    dsimp only [wpO]
    cases seqL M b with
    | none => rfl
    | some ys => dsimp only; by_cases h : xs.length + ys.length ≤ sizeLine <;> simp [h]
@[simp] theorem gCatN_w : wpE (gCatN a b M) Q X = wpO (seqL M a) (fun xs => wpO (seqL M b) (fun ys => xs.length + ys.length ≤ sizeLine ∧ Q (.ref M.length) (M ++ [.lst (xs ++ ys)]))) := by
  unfold gCatN
  cases seqL M a with
  | none => rfl
  | some xs =>
    dsimp only [wpO]
    cases seqL M b with
    | none => rfl
    | some ys => dsimp only; by_cases h : xs.length + ys.length ≤ sizeLine <;> simp [h]
end
end Br
end
section
namespace Br
open PySem PySem.Spec L2
section
variable {Q : D → Mem → Prop} {X : Exn → Mem → Prop} {M : Mem} {ρ : En} {a b : FE} {g : FA}
/-! ### dict displays, updates -/
@[simp] theorem eDisp_w {ks : List Str} : wpE (eDisp ks g ρ M) Q X = wpE (g ρ M) (fun ds M1 => (ds.length = ks.length ∧ ks.length ≤ 15) ∧ Q (.ref M1.length) (M1 ++ [.dic ((ks.map fun z => (Sum.inr z : Key)).zip ds)])) X := by
  unfold eDisp; rw [wpE_bind]
  congr 1; funext ds M1
  by_cases h : ds.length = ks.length ∧ ks.length ≤ 15
  · rw [if_pos h]; exact propext ⟨fun k => ⟨h, k⟩, fun k => k.2⟩
  · rw [if_neg h]; exact propext ⟨fun k => k.elim, fun k => absurd k.1 h⟩
@[simp] theorem eDUpd_w : wpE (eDUpd a b ρ M) Q X = wpE (a ρ M) (fun x M1 => wpR x (fun n => wpO (dicO M1[n]?) (fun _ => wpE (b ρ M1) (fun y M2 => wpR y (fun j => wpO (dicO M2[n]?) (fun kvs => wpO (dicO M2[j]?) (fun more => (n ≠ j ∧ kvs.length + more.length ≤ sizeLine) ∧ Q .non (M2.set n (.dic (mergeD kvs more))))))) X))) X := by
  unfold eDUpd
  rw [wpE_bind]
  congr 1; funext x M1
  cases x with
  | ref n =>
    dsimp only [wpR]
    cases h : M1[n]? with
    | none => rfl
    | some o =>
      cases o with
      | dic kvs0 =>
        dsimp only [dicO, wpO]
        rw [wpE_bind]
        congr 1; funext y M2
        cases y with
        | ref j =>
          dsimp only [wpR]
          cases h2 : M2[n]? with
          | none => rfl
          | some o2 =>
            cases o2 with
            | dic kvs =>
              dsimp only [dicO, wpO]
              cases h3 : M2[j]? with
              | none => rfl
              | some o3 =>
                cases o3 with
                | dic more =>
                  dsimp only [dicO, wpO]
                  by_cases hc : n ≠ j ∧ kvs.length + more.length ≤ sizeLine
                  · rw [if_pos hc]; exact propext ⟨fun k => ⟨hc, k⟩, fun k => k.2⟩
                  · rw [if_neg hc]; exact propext ⟨fun k => k.elim, fun k => absurd k.1 hc⟩
                | _ => rfl
            | _ => rfl
        | _ => rfl
      | _ => rfl
  | _ => rfl
theorem toPys_strs (rs : Nat → Option PyData) : ∀ l : List Str, toPysR rs (l.map D.str) = some (l.map PyData.str)
  | [] => rfl
  | x :: l => by simp [toPysR, toPyR, toPys_strs rs l]
theorem any_strs (x : Str) : ∀ l : List Str, ((l.map PyData.str).any fun z => PyData.eqv z (.str x)) = decide (x ∈ l)
  | [] => by simp
  | y :: l => by
    rw [List.map_cons, List.any_cons, any_strs x l, PyData.eqv]
    by_cases h : y = x
    · subst h; simp
    · have h' : x ≠ y := fun e => h e.symm
      simp [h, h']
theorem shaped_strs : ∀ l : List Str, (∀ z ∈ l, PyData.strOk z = true) → PyData.canLayAll0 (l.map PyData.str) = true ∧ PyData.depthAll (l.map PyData.str) = 0
  | [], _ => ⟨rfl, rfl⟩
  | x :: l, h => by
    obtain ⟨h1, h2⟩ := shaped_strs l fun z hz => h z (by simp [hz])
    have h3 := h x (by simp)
    refine ⟨?_, ?_⟩
    · simp [PyData.canLayAll0, PyData.canLay0, h1, h3]
    · simp [PyData.depthAll, PyData.depth, h2]
theorem in_strs {M : Mem} {x : Str} {l : List Str} (hx : PyData.strOk x = true) (hl : ∀ z ∈ l, PyData.strOk z = true) : inD M (.str x) (.tup (l.map .str)) = some (decide (x ∈ l)) := by
  have e1 : toPy M (.tup (l.map .str)) = some (.tuple (l.map PyData.str)) := by
    unfold toPy toPyR
    rw [toPys_strs]; rfl
  obtain ⟨h1, h2⟩ := shaped_strs l hl
  have s1 : SeqAt.shaped (.str x) = true := by
    unfold SeqAt.shaped
    simp [PyData.canLay0, PyData.depth, hx]
  have s2 : SeqAt.shaped (.tuple (l.map PyData.str)) = true := by
    unfold SeqAt.shaped
    rw [PyData.canLay0, PyData.depth, h1, h2]; rfl
  show (match toPy M (.str x), toPy M (.tup (l.map .str)) with
    | some p, some (.list ps) => if SeqAt.shaped p && SeqAt.shaped (.list ps) then some (ps.any fun z => PyData.eqv z p) else none
    | some p, some (.tuple ps) => if SeqAt.shaped p && SeqAt.shaped (.tuple ps) then some (ps.any fun z => PyData.eqv z p) else none
    | _, _ => none) = _
  rw [e1]
  show (if (SeqAt.shaped (.str x) && SeqAt.shaped (.tuple (l.map PyData.str))) = true then _ else _) = _
  rw [s1, s2, if_pos (by rfl), any_strs]
theorem in_str2 {M : Mem} {x y z : Str} (hx : PyData.strOk x = true) (hy : PyData.strOk y = true) (hz : PyData.strOk z = true) : inD M (.str x) (.tup [.str y, .str z]) = some (decide (x = y) || decide (x = z)) := by
  have h := in_strs (M := M) (x := x) (l := [y, z]) hx (by simp [hy, hz])
  rw [show D.tup [.str y, .str z] = .tup ([y, z].map .str) from rfl, h]
  simp
theorem in_str3 {M : Mem} {x y z u : Str} (hx : PyData.strOk x = true) (hy : PyData.strOk y = true) (hz : PyData.strOk z = true) (hu : PyData.strOk u = true) : inD M (.str x) (.tup [.str y, .str z, .str u]) = some (decide (x = y) || decide (x = z) || decide (x = u)) := by
  have h := in_strs (M := M) (x := x) (l := [y, z, u]) hx (by simp [hy, hz, hu])
  rw [show D.tup [.str y, .str z, .str u] = .tup ([y, z, u].map .str) from rfl, h]
  simp [Bool.or_assoc]
@[simp] theorem gMul_t1 {xs : List D} : wpE (gMul' (.tup xs) (.int 1) M) Q X = Q (.tup xs) M := by
  unfold gMul'; simp
@[simp] theorem gMul_t2 {x : D} : wpE (gMul' (.tup [x]) (.int 2) M) Q X = Q (.tup [x, x]) M := by
  unfold gMul'; simp
end
end Br
end
section
set_option maxHeartbeats 1000000
namespace Br
open PySem PySem.Spec L2
/-! ### wpE of f-strings, instances' repr and truth -/
section
variable {M : Mem} {Q : D → Mem → Prop} {X : Exn → Mem → Prop} {ρ : En} {n : Nat}
@[simp] theorem eJs_n {acc : Str} : wpE (eJs [] acc ρ M) Q X = Q (.str acc) M := rfl
@[simp] theorem eJs_c {f : FE} {fs : List FE} {acc : Str} : wpE (eJs (f :: fs) acc ρ M) Q X = wpE (f ρ M) (fun d M1 => match d with
  | .str y => (acc ++ y).length ≤ sizeLine ∧ wpE (eJs fs (acc ++ y) ρ M1) Q X
  | _ => False) X := by
  show wpE ((f ρ M).bind _) Q X = _
  cases f ρ M with
  | ok d M1 =>
    cases d <;> try rfl
    rename_i y
    show wpE (if (acc ++ y).length ≤ sizeLine then _ else _) Q X = _
    by_cases h : (acc ++ y).length ≤ sizeLine
    · rw [if_pos h]; simp [wpE, h]
    · rw [if_neg h]; simp [wpE, h]
  | ex e M1 => rfl
  | no => rfl
@[simp] theorem eFmt_w {f : FE} : wpE (eFmt f ρ M) Q X = wpE (f ρ M) (fun d M1 => match fmtD d with
  | some z => Q (.str z) M1
  | none => False) X := by
  show wpE ((f ρ M).bind _) Q X = _
  cases f ρ M with
  | ok d M1 =>
    show wpE (match fmtD d with
      | some z => R.ok (.str z) M1
      | none => .no) Q X = _
    cases h : fmtD d <;> simp [wpE, h]
  | ex e M1 => rfl
  | no => rfl
@[simp] theorem tTO_w {tb : PTb} {f : FE} {Q : Bool → Mem → Prop} : wpE (tTO tb f ρ M) Q X = wpE (f ρ M) (fun d M1 => wpE (truO tb d M1) Q X) X := by
  show wpE ((f ρ M).bind _) Q X = _
  rw [wpE_bind]
@[simp] theorem eRevL_w {f : FE} : wpE (eRevL f ρ M) Q X = wpE (f ρ M) (fun d M1 => wpE (gRevL d M1) Q X) X := by
  show wpE ((f ρ M).bind _) Q X = _
  rw [wpE_bind]
@[simp] theorem gRevL_rw {n : Nat} : wpE (gRevL (.ref n) M) Q X = wpO (lstO M[n]?) (fun xs => Q .non (M.set n (.lst xs.reverse))) := by
  unfold gRevL
  dsimp only
  cases h : M[n]? with
  | none => rfl
  | some o => cases o <;> rfl
theorem gReprO_iw {tb : PTb} {c : Str} {fs : List (Str × D)} {G : FL} {z : Str} {M' : Mem} (h : M[n]? = some (.ins c fs)) (hG : tb.lookup c = some G) (e : G [.ref n] M = .ok (.str z) M') : wpE (gReprO tb [.ref n] M) Q X = Q (.str z) M' := by
  unfold gReprO insOf
  simp only [h]
  rw [hG]
  simp only [e, strR]
  rfl
theorem truO_iw {tb : PTb} {c : Str} {fs : List (Str × D)} {G : FL} {i : Int} {M' : Mem} (h : M[n]? = some (.ins c fs)) (hG : tb.lookup c = some G) (e : G [.ref n] M = .ok (.int i) M') (h0 : 0 ≤ i ∧ i < 2 ^ 63) : truO tb (.ref n) M = .ok (i != 0) M' := by
  unfold truO insOf
  simp only [h]
  rw [hG]
  simp only [e, truR, lenR, if_pos h0]
  rfl
theorem gBoolO_iw {tb : PTb} {c : Str} {fs : List (Str × D)} {G : FL} {i : Int} {M' : Mem} (h : M[n]? = some (.ins c fs)) (hG : tb.lookup c = some G) (e : G [.ref n] M = .ok (.int i) M') (h0 : 0 ≤ i ∧ i < 2 ^ 63) : wpE (gBoolO tb [.ref n] M) Q X = Q (.bl (i != 0)) M' := by
  unfold gBoolO insOf
  simp only [h]
  rw [hG]
  simp only [e, truR, lenR, if_pos h0, blM]
  rfl
end
theorem gEqI_w {M : Mem} {n n' : Nat} {c : Str} {cs : List Str} {fs fs' : List (Str × D)} (h : M[n]? = some (.ins c fs)) (h' : M[n']? = some (.ins c fs')) (hc : c ∈ cs) : gEqI cs (.ref n) (.ref n') M = .ok (.bl (decide (n = n'))) M := by
  unfold gEqI insOf
  simp only [h, h']
  simp [hc]
end Br
namespace Br
open PySem PySem.Spec L2
/-! ### enumerate, try -/
section
variable {M : Mem} {ρ : En} {n : En → Mem → Prop} {r : D → Mem → Prop} {b c : En → Mem → Prop} {x : Exn → En → Mem → Prop} {gg : FG} {s1 : FStm}
@[simp] theorem sTry0_w {g : FStm} : wpS (sTry0 g ρ M) n r b c x = wpS (g ρ M) n r b c (fun _ _ _ => False) := by
  unfold sTry0
  cases g ρ M with
  | go f ρ M => cases f <;> rfl
  | ex e ρ M => rfl
  | no => rfl
theorem turn_w {y : D} {k : En → Mem → SR} (h : wpS (gg y ρ M) (fun ρ M => wpS (s1 ρ M) (fun ρ M => wpS (k ρ M) n r b c x) r n (fun ρ M => wpS (k ρ M) n r b c x) x) (fun _ _ => False) (fun _ _ => False) (fun _ _ => False) (fun _ _ _ => False)) : wpS (turn gg s1 y k ρ M) n r b c x := by
  unfold turn
  cases hg : gg y ρ M with
  | go fl ρ1 M1 =>
    rw [hg] at h
    cases fl with
    | nx =>
      dsimp only
      have h2 : wpS (s1 ρ1 M1) _ _ _ _ _ := h
      cases hs : s1 ρ1 M1 with
      | go fl ρ2 M2 => rw [hs] at h2; cases fl <;> exact h2
      | ex e ρ2 M2 => rw [hs] at h2; exact h2
      | no => rw [hs] at h2; exact h2.elim
    | ret d => exact h.elim
    | bk => exact h.elim
    | ct => exact h.elim
  | ex e ρ1 M1 => rw [hg] at h; exact h.elim
  | no => rw [hg] at h; exact h.elim
theorem forEn_w {f : FE} {m : Nat} (ds : List D) (I : Nat → En → Mem → Prop)
    (hf : wpE (f ρ M) (fun d M1 => (d = .lst ds ∨ ∃ q, d = .ref q ∧ ds.length < m ∧ M1[q]? = some (.lst ds) ∧ ∀ i ρ' M', I i ρ' M' → M'[q]? = some (.lst ds)) ∧ I 0 ρ M1) (fun e M => x e ρ M))
    (ht : ∀ i d ρ M, ds[i]? = some d → I i ρ M → wpS (gg (.tup [.int (i : Int), d]) ρ M) (fun ρ M => wpS (s1 ρ M) (I (i + 1)) r n (I (i + 1)) x) (fun _ _ => False) (fun _ _ => False) (fun _ _ => False) (fun _ _ _ => False))
    (he : ∀ ρ M, I ds.length ρ M → n ρ M) : wpS (sForEn m f gg s1 ρ M) n r b c x := by
  unfold sForEn
  rw [wpS_of]
  refine wpE_mono hf (fun d M1 ⟨h1, h0⟩ => ?_) fun e M h => h
  rcases h1 with rfl | ⟨q, rfl, hlen, hq, hI⟩
  · refine for_w (fun zs ρ M => ∃ i, zs = (enumD ds).drop i ∧ i ≤ ds.length ∧ I i ρ M) (fun y ys ρ M hh => ?_) (fun ρ M hh => ?_) _ _ _ ⟨0, rfl, Nat.zero_le _, h0⟩
    · obtain ⟨i, e, hi, hI⟩ := hh
      have hlt : i < (enumD ds).length := by
        rcases Nat.lt_or_ge i (enumD ds).length with h | h
        · exact h
        · rw [List.drop_eq_nil_iff.mpr h] at e; cases e
      have hlt2 : i < ds.length := by rw [enumD_length] at hlt; exact hlt
      have hd : ds[i]? = some ds[i] := List.getElem?_eq_getElem hlt2
      have he2 := enumD_get hd
      rw [List.getElem?_eq_getElem hlt] at he2
      have he3 : (enumD ds)[i] = .tup [.int i, ds[i]] := Option.some.inj he2
      rw [List.drop_eq_getElem_cons hlt, he3] at e
      injection e with e1 e2
      subst e1
      refine wpS_mono (ht i _ ρ M hd hI) (fun ρ M h => ?_) (fun _ _ z => z) (fun _ _ z => z) (fun _ _ z => z) (fun _ _ _ z => z)
      exact wpS_mono h (fun ρ M h => ⟨i + 1, e2, hlt2, h⟩) (fun _ _ z => z) (fun _ _ z => z) (fun ρ M h => ⟨i + 1, e2, hlt2, h⟩) (fun _ _ _ z => z)
    · obtain ⟨i, e, hi, hI⟩ := hh
      have hge : ds.length ≤ i := by
        have := List.drop_eq_nil_iff.mp e.symm
        rw [enumD_length] at this; exact this
      have : i = ds.length := by omega
      subst this
      exact he ρ M hI
  · dsimp only
    rw [hq]
    dsimp only
    have key : ∀ (m i : Nat) (ρ : En) (M : Mem), ds.length < m + i → i ≤ ds.length → I i ρ M → wpS (sForEnL gg s1 q m i ρ M) n r b c x := by
      intro m
      induction m with
      | zero => intro i ρ M h1 h2; omega
      | succ m ih =>
        intro i ρ M h1 h2 hh
        unfold sForEnL
        rw [hI i ρ M hh]
        dsimp only
        by_cases hlt : i < ds.length
        · have hd : ds[i]? = some ds[i] := List.getElem?_eq_getElem hlt
          rw [hd]
          dsimp only
          refine turn_w (wpS_mono (ht i _ ρ M hd hh) (fun ρ M h => ?_) (fun _ _ z => z) (fun _ _ z => z) (fun _ _ z => z) (fun _ _ _ z => z))
          exact wpS_mono h (fun ρ M h => ih (i + 1) ρ M (by omega) hlt h) (fun _ _ z => z) (fun _ _ z => z) (fun ρ M h => ih (i + 1) ρ M (by omega) hlt h) (fun _ _ _ z => z)
        · have e : i = ds.length := by omega
          subst e
          rw [List.getElem?_eq_none (Nat.le_refl _)]
          exact he ρ M hh
    exact key m 0 ρ M1 (by omega) (Nat.zero_le _) h0
end
@[simp] theorem isi_rl {M : Mem} {n : Nat} {xs : List D} {Q : D → Mem → Prop} {X : Exn → Mem → Prop} (h : M[n]? = some (.lst xs)) : wpE (gIsi [.ref n, .ty "list"] M) Q X = Q (.bl true) M := by
  unfold gIsi
  simp [h, tyD]
  rfl
end Br
namespace Br
open PySem PySem.Spec L2
section
variable {Q : D → Mem → Prop} {X : Exn → Mem → Prop} {ρ : En} {M : Mem} {gg : FG} {tt : FT} {te f a b : FE}
theorem lcl_w {QL : List D → Mem → Prop} (ds : List D) (I : Nat → List D → Mem → Prop) {n m : Nat} (hm : ds.length < m)
    (hM : ∀ i acc M, I i acc M → M[n]? = some (.lst ds))
    (ht : ∀ i acc M y, ds[i]? = some y → I i acc M → wpS (gg y ρ M) (fun ρ1 M1 => wpE (tt ρ1 M1) (fun k M2 => (k = true → wpE (te ρ1 M2) (fun z M3 => acc.length < sizeLine ∧ I (i + 1) (acc ++ [z]) M3) (fun _ _ => False)) ∧ (k = false → I (i + 1) acc M2)) (fun _ _ => False)) (fun _ _ => False) (fun _ _ => False) (fun _ _ => False) (fun _ _ _ => False))
    (he : ∀ acc M, I ds.length acc M → QL acc M) (h0 : I 0 [] M) : wpE (lcGoL gg tt te ρ n m 0 [] M) QL X := by
  have key : ∀ (m i : Nat) (acc : List D) (M : Mem), ds.length < m + i → i ≤ ds.length → I i acc M → wpE (lcGoL gg tt te ρ n m i acc M) QL X := by
    intro m
    induction m with
    | zero => intro i acc M h1 h2; omega
    | succ m ih =>
      intro i acc M h1 h2 hI
      unfold lcGoL
      rw [hM i acc M hI]
      dsimp only
      by_cases hi : i < ds.length
      · have e : ds[i]? = some ds[i] := by simp [hi]
        rw [e]
        dsimp only
        have h3 := ht i acc M _ e hI
        cases hg : gg ds[i] ρ M with
        | go fl ρ1 M1 =>
          rw [hg] at h3
          cases fl with
          | nx =>
            dsimp only
            have h3' : wpE (tt ρ1 M1) _ _ := h3
            cases hk : tt ρ1 M1 with
            | ok k M2 =>
              rw [hk] at h3'
              obtain ⟨h4, h5⟩ := h3'
              cases k with
              | true =>
                dsimp only
                have h6 := h4 rfl
                cases hz : te ρ1 M2 with
                | ok z M3 =>
                  rw [hz] at h6
                  obtain ⟨h7, h8⟩ := h6
                  dsimp only
                  rw [if_pos h7]
                  exact ih (i + 1) _ M3 (by omega) hi h8
                | ex e M3 => rw [hz] at h6; exact h6.elim
                | no => rw [hz] at h6; exact h6.elim
              | false => exact ih (i + 1) _ M2 (by omega) hi (h5 rfl)
            | ex e M2 => rw [hk] at h3'; exact h3'.elim
            | no => rw [hk] at h3'; exact h3'.elim
          | ret d => exact h3.elim
          | bk => exact h3.elim
          | ct => exact h3.elim
        | ex e ρ1 M1 => rw [hg] at h3; exact h3.elim
        | no => rw [hg] at h3; exact h3.elim
      · have e2 : i = ds.length := by omega
        subst e2
        rw [List.getElem?_eq_none (Nat.le_refl _)]
        exact he acc M hI
  exact key m 0 [] M (by omega) (Nat.zero_le _) h0
@[simp] theorem gRepN_w {n : Nat} {k : Int} : wpE (gRepN (.ref n) (.int k) M) Q X = wpO (lstO M[n]?) (fun xs => ((-(2 ^ 63) ≤ k ∧ k < 2 ^ 63) ∧ xs.length * k.toNat ≤ sizeLine) ∧ Q (.ref M.length) (M ++ [.lst (List.replicate k.toNat xs).flatten])) := by
  unfold gRepN
  dsimp only
  cases h : M[n]? with
  | none => rfl
  | some o =>
    cases o with
    | lst xs =>
      dsimp only [lstO, wpO]
      by_cases hk : (-(2 ^ 63) ≤ k ∧ k < 2 ^ 63) ∧ xs.length * k.toNat ≤ sizeLine
      · rw [if_pos hk]; simp only [wpE, hk, true_and]
      · rw [if_neg hk]; simp only [wpE, hk, false_and]
    | dic kvs => rfl
    | ins c fs => rfl
@[simp] theorem gSl_lw {xs : List D} {lo hi : Option Int} : wpE (gSl (.lst xs) lo hi M) Q X = Q (.ref M.length) (M ++ [.lst (cutD xs lo hi)]) := rfl
end
end Br
namespace Br
open PySem PySem.Spec L2
section
variable {Q : D → Mem → Prop} {X : Exn → Mem → Prop} {M : Mem} {ρ : En} {a f : FE} {g : FA}
@[simp] theorem eSM_w {h : Str → List D → Mem → R D} : wpE (eSM h a g ρ M) Q X = wpE (a ρ M) (fun x M1 => match x with
  | .str z => wpE (g ρ M1) (fun ds M2 => wpE (h z ds M2) Q X) X
  | _ => False) X := by
  unfold eSM; rw [wpE_bind]
  congr 1; funext x M1
  cases x with
  | str z => dsimp only; rw [wpE_bind]
  | _ => rfl
@[simp] theorem gJoin_l {z : Str} {xs : List D} : wpE (gJoin z [.lst xs] M) Q X = wpO (strsD xs) (fun ys => (ys.map (·.length)).sum + ys.length * z.length ≤ 16777216 ∧ Q (.str (Txt.join z ys)) M) := by
  unfold gJoin
  simp only [seqA_l]
  cases strsD xs with
  | none => rfl
  | some ys =>
    dsimp only [wpO]
    by_cases h : (ys.map (·.length)).sum + ys.length * z.length ≤ 16777216
    · simp [h]
    · simp [h]
@[simp] theorem gJoin_r {z : Str} {n : Nat} : wpE (gJoin z [.ref n] M) Q X = wpO (lstO M[n]?) (fun xs => wpO (strsD xs) (fun ys => (ys.map (·.length)).sum + ys.length * z.length ≤ 16777216 ∧ Q (.str (Txt.join z ys)) M)) := by
  unfold gJoin
  simp only [seqA_r]
  cases lstO M[n]? with
  | none => rfl
  | some xs =>
    dsimp only [wpO]
    cases strsD xs with
    | none => rfl
    | some ys =>
      dsimp only [wpO]
      by_cases h : (ys.map (·.length)).sum + ys.length * z.length ≤ 16777216
      · simp [h]
      · simp [h]
theorem strsD_map : ∀ zs : List Str, strsD (zs.map D.str) = some zs
  | [] => rfl
  | z :: zs => by rw [List.map_cons, strsD, strsD_map zs]; rfl
@[simp] theorem strsD_nil : strsD [] = some [] := rfl
@[simp] theorem strsD_cons {z : Str} {r : List D} : strsD (.str z :: r) = (strsD r).map (z :: ·) := rfl
@[simp] theorem gSplit_w {z b : Str} : wpE (gSplit z [.str b] M) Q X = (((b.length == 0) = false ∧ z.length + 2 ≤ sizeLine) ∧ Q (.lst ((Txt.split z b).map D.str)) M) := by
  unfold gSplit
  dsimp only
  by_cases h : (b.length == 0) = false ∧ z.length + 2 ≤ sizeLine
  · rw [if_pos h]; simp [h]
  · rw [if_neg h]; simp only [h, false_and]; rfl
@[simp] theorem gParti_w {z b : Str} : wpE (gParti z [.str b] M) Q X = (((b.length == 0) = false ∧ z.length ≤ sizeLine) ∧ Q (.tup [.str (Txt.partition z b).1, .str (Txt.partition z b).2.1, .str (Txt.partition z b).2.2]) M) := by
  unfold gParti
  dsimp only
  by_cases h : (b.length == 0) = false ∧ z.length ≤ sizeLine
  · rw [if_pos h]; simp [h]
  · rw [if_neg h]; simp only [h, false_and]; rfl
@[simp] theorem gRmp_w {z b : Str} : wpE (gRmp z [.str b] M) Q X = (z.length ≤ sizeLine ∧ Q (.str (Txt.removeprefix z b)) M) := by
  unfold gRmp
  dsimp only
  by_cases h : z.length ≤ sizeLine
  · rw [if_pos h]; simp [h]
  · rw [if_neg h]; simp [h]
theorem gIntS_w {z : Str} {n : Int} (h : PySem.intText? z = some n) (hz : z.length ≤ 640) : wpE (gIntS [.str z] M) Q X = Q (.int n) M := by
  unfold gIntS
  dsimp only
  rw [h]
  dsimp only
  rw [if_pos hz]; rfl
@[simp] theorem wIs_w {QW : Wk → Mem → Prop} : wpE (wIs f ρ M) QW X = wpE (f ρ M) (fun d M1 => match d with
  | .str z => QW (.items (charsD z)) M1
  | _ => False) X := by
  unfold wIs; rw [wpE_bind]
  congr 1; funext d M1
  cases d <;> rfl
end
end Br
end
section
namespace LW
open PySem PySem.Spec Br
/-! ### memories, without machines -/
theorem apl {n : Nat} {M : Mem} {x : MO} {l' : Mem} (h : M[n]? = some x) : (M ++ l')[n]? = some x := by
  rw [List.getElem?_append_left (List.getElem?_eq_some_iff.mp h).1]; exact h
structure Frm (ns : List Nat) (M M' : Mem) : Prop where
  le : M.length ≤ M'.length
  same : ∀ i, i < M.length → i ∉ ns → M'[i]? = M[i]?
theorem Frm.refl (ns : List Nat) (M : Mem) : Frm ns M M := ⟨Nat.le_refl _, fun _ _ _ => rfl⟩
theorem Frm.trans {ns : List Nat} {M M1 M2 : Mem} (a : Frm ns M M1) (b : Frm ns M1 M2) : Frm ns M M2 :=
  ⟨Nat.le_trans a.le b.le, fun i hi hn => (b.same i (Nat.lt_of_lt_of_le hi a.le) hn).trans (a.same i hi hn)⟩
theorem Frm.mono {ns ns' : List Nat} {M M' : Mem} (a : Frm ns M M') (h : ∀ i ∈ ns, i ∈ ns') : Frm ns' M M' := ⟨a.le, fun i hi hn => a.same i hi fun z => hn (h i z)⟩
theorem Frm.get {ns : List Nat} {M M' : Mem} {i : Nat} {o : MO} (a : Frm ns M M') (h : M[i]? = some o) (hn : i ∉ ns) : M'[i]? = some o := (a.same i (List.getElem?_eq_some_iff.mp h).1 hn).trans h
theorem Frm.app (ns : List Nat) (M l : Mem) : Frm ns M (M ++ l) := ⟨by simp, fun i h _ => List.getElem?_append_left h⟩
theorem Frm.set (ns : List Nat) (M : Mem) {n : Nat} (o : MO) (h : n ∈ ns) : Frm ns M (M.set n o) := ⟨by simp, fun i _ hn => by
  rw [List.getElem?_set_ne]
  rintro rfl
  exact hn h⟩
theorem ne_at {M : Mem} {i j : Nat} {x y : MO} (h1 : M[i]? = some x) (h2 : M[j]? = some y) (h : x ≠ y) : i ≠ j := fun e => h (by subst e; rw [h1] at h2; exact Option.some.inj h2)
/-! ### the bag -/
def bag (a b c : Int) : MO := .lst [.int a, .int b, .int c]
theorem take_ok {M : Mem} {n : Nat} {a b c m : Int} (h : M[n]? = some (bag a b c)) (ha : 0 ≤ a) (hb : 0 ≤ b) (hb2 : b < 2 ^ 62) (hc : 0 ≤ c) (hc2 : c < 2 ^ 31) (hm : 0 < m) (hm2 : m < 2 ^ 40) :
    ∃ d a' c' : Int, 0 ≤ d ∧ d < m ∧ 0 ≤ a' ∧ 0 ≤ c' ∧ c' ≤ c + 1 ∧ m__law_take [.ref n, .int m] M = .ok (.int d) (M.set n (bag a' b c')) := by
  have hn : n < M.length := (List.getElem?_eq_some_iff.mp h).1
  unfold bag at h
  have hm3 : m < 18446744073709551616 := by omega
  by_cases h0 : 0 < a
  · refine ⟨a % m, a / m, c, Int.emod_nonneg _ (by omega), Int.emod_lt_of_pos _ hm, Int.ediv_nonneg ha (by omega), hc, by omega, ?_⟩
    apply wpE_eq
    unfold m__law_take b__law_take bag
    simp [h, h0, hm, hm3, atN, List.getElem?_set_self hn, L2.ixN, L2.atI]
  · have m1 : mulOk 1000033 (c + 1) = true := mulOk_l (by decide) (by decide)
    have m2 : mulOk 15485917 (c + 1) = true := mulOk_l (by decide) (by decide)
    have hp1 : (b + 1000033 * (c + 1)).natAbs < 1606938044258990275541962092341162602522202993782792835301376 := by omega
    generalize hL : b + 1000033 * (c + 1) = L at *
    have hF0 : 0 ≤ L ^ 3 % 2305843009213693921 := Int.emod_nonneg _ (by decide)
    have hF1 : L ^ 3 % 2305843009213693921 < 2305843009213693921 := Int.emod_lt_of_pos _ (by decide)
    generalize hF : L ^ 3 % 2305843009213693921 = F at *
    have hp2 : (F + 15485917 * (c + 1)).natAbs < 1606938044258990275541962092341162602522202993782792835301376 := by omega
    generalize hG : F + 15485917 * (c + 1) = G at *
    refine ⟨G ^ 2 % 2305843009213693951 / 2048 % m, a, c + 1, Int.emod_nonneg _ (by omega), Int.emod_lt_of_pos _ hm, ha, by omega, by omega, ?_⟩
    have hs : (M.set n (MO.lst [D.int a, D.int b, D.int (c + 1)]))[n]? = some (MO.lst [D.int a, D.int b, D.int (c + 1)]) := by simp [hn]
    apply wpE_eq
    unfold m__law_take b__law_take bag
    simp [h, h0, hm, hm3, hs, L2.ixN, L2.atI, m1, m2, hL, hp1, hF, hG, hp2]
/-- a bag with bounds -/
structure Bag (M : Mem) (n : Nat) (b c : Int) : Prop where
  at_ : ∃ a c', M[n]? = some (bag a b c') ∧ 0 ≤ a ∧ 0 ≤ c' ∧ c' ≤ c
  b0 : 0 ≤ b
  b1 : b < 2 ^ 62
theorem Bag.lt {M : Mem} {n : Nat} {b c : Int} (h : Bag M n b c) : n < M.length := by
  obtain ⟨a, c', h1, _⟩ := h.at_
  exact (List.getElem?_eq_some_iff.mp h1).1
theorem Bag.mono {M : Mem} {n : Nat} {b c c' : Int} (h : Bag M n b c) (hc : c ≤ c') : Bag M n b c' := by
  obtain ⟨a, c1, h1, h2, h3, h4⟩ := h.at_
  exact ⟨⟨a, c1, h1, h2, h3, by omega⟩, h.b0, h.b1⟩
theorem Bag.frm {ns : List Nat} {M M' : Mem} {n : Nat} {b c : Int} (h : Bag M n b c) (f : Frm ns M M') (hn : n ∉ ns) : Bag M' n b c := by
  obtain ⟨a, c1, h1, h2⟩ := h.at_
  exact ⟨⟨a, c1, f.get h1 hn, h2⟩, h.b0, h.b1⟩
theorem Bag.take {M : Mem} {n : Nat} {b c m : Int} (h : Bag M n b c) (hc2 : c < 2 ^ 31) (hm : 0 < m) (hm2 : m < 2 ^ 40) :
    ∃ (d : Int) (M' : Mem), m__law_take [.ref n, .int m] M = .ok (.int d) M' ∧ 0 ≤ d ∧ d < m ∧ M'.length = M.length ∧ Frm [n] M M' ∧ Bag M' n b (c + 1) := by
  obtain ⟨a, c', h1, h2, h3, h4⟩ := h.at_
  obtain ⟨d, a', c'', g1, g2, g3, g4, g5, g6⟩ := take_ok h1 h2 h.b0 h.b1 h3 (by omega) hm hm2
  have hl := h.lt
  exact ⟨d, _, g6, g1, g2, List.length_set .., Frm.set [n] M _ (by simp), ⟨⟨a', c'', List.getElem?_set_self hl, g3, g4, by omega⟩, h.b0, h.b1⟩⟩
theorem take_w {M : Mem} {n : Nat} {b c m : Int} {Q : D → Mem → Prop} {X : Exn → Mem → Prop} (h : Bag M n b c) (hc2 : c < 2 ^ 31) (hm : 0 < m) (hm2 : m < 2 ^ 40) (k : ∀ (d : Int) (M' : Mem), 0 ≤ d → d < m → M'.length = M.length → Frm [n] M M' → Bag M' n b (c + 1) → Q (.int d) M') : wpE (m__law_take [.ref n, .int m] M) Q X := by
  obtain ⟨d, M', e, h1, h2, h3, h4, h5⟩ := h.take hc2 hm hm2
  rw [e]
  exact k d M' h1 h2 h3 h4 h5
def bagP (p q r : Int) : FStm := (sSeq (sAsg (eIf (tC (e2 gLt (eV 1) (eL gLen (aC (eV 0) aN)))) (e2 gIx (eV 0) (eV 1)) (eC (D.int 0))) (gN 2))
    (sSeq (sAsg (eIf (tC (e2 gGe (eL gAbs (aC (eV 2) aN)) (e2 gPow (eC (D.int 10)) (eC (D.int 18))))) (eL gAbs (aC (eV 2) aN)) (eC (D.int 0))) (gN 3))
    (sRet (eL gNew (aC (eV 3) (aC (e2 gMod (e2 gMul' (e2 gAdd (e2 gAdd (e2 gMod (eV 2) (eC (D.int r))) (e2 gMul' (eC (D.int p)) (eV 1))) (eC (D.int 7))) (eC (D.int q))) (eC (D.int r))) (aC (eC (D.int 0)) aN)))))))
theorem bagP_ok {p q r x y I B : Int} {ns : List Int} {M : Mem} (hx : if I < (ns.length : Int) then L2.atI (ns.map D.int) I = some (.int x) else x = 0) (hy : x % r = y) (hB : (y + p * I + 7) * q % r = B) (h1 : mulOk p I = true) (h2 : ∀ j, mulOk j q = true) (hr : 0 < r) (hr2 : r < 18446744073709551616) :
    ∃ a : Int, 0 ≤ a ∧ Br.run (bagP p q r) 4 [scriptD ns, .int I] M = .ok (.ref M.length) (M ++ [bag a B 0]) := by
  refine ⟨if 1000000000000000000 ≤ (if x < 0 then -x else x) then (if x < 0 then -x else x) else 0, by split <;> (try split) <;> omega, ?_⟩
  apply wpE_eq
  unfold bagP scriptD
  generalize hz : (if x < 0 then -x else x) = z at *
  by_cases hl : I < (ns.length : Int)
  · rw [if_pos hl] at hx
    by_cases hg : 1000000000000000000 ≤ z <;> simp [hl, hx, hy, h1, h2, szl, hz, hg, bag, hB, hr, hr2]
  · rw [if_neg hl] at hx
    subst hx
    have hz0 : z = 0 := by rw [← hz]; rfl
    subst hz0
    have hy0 : y = 0 := by rw [← hy]; exact Int.zero_emod r
    subst hy0
    simp only [Int.zero_add] at hB
    simp [hl, h1, h2, szl, bag, hB, hr, hr2]
theorem bag_new (ns : List Int) (M : Mem) (i : Nat) (hi : i < 64) : ∃ b M', m__law_bag [scriptD ns, .int i] M = .ok (.ref M.length) M' ∧ Bag M' M.length b 0 ∧ M'.length = M.length + 1 ∧ Frm [] M M' := by
  have hx : ∃ x : Int, (if (i : Int) < (ns.length : Int) then L2.atI (ns.map D.int) i = some (.int x) else x = 0) := by
    by_cases hl : i < ns.length
    · refine ⟨ns[i], ?_⟩
      rw [if_pos (by omega), atN]
      simp [hl]
    · exact ⟨0, by rw [if_neg (by omega)]⟩
  obtain ⟨x, hx⟩ := hx
  have h1 : 0 ≤ x % 2305843009213693951 := Int.emod_nonneg _ (by decide)
  have h2 : x % 2305843009213693951 < 2305843009213693951 := Int.emod_lt_of_pos _ (by decide)
  generalize hy : x % 2305843009213693951 = y at *
  have m3 : ∀ j, mulOk 8221 j = true := fun j => mulOk_l (by decide) (by decide)
  have m1 : ∀ j, mulOk j 5103497 = true := fun j => mulOk_r (by decide) (by decide)
  have k0 : 0 ≤ (y + 8221 * i + 7) * 5103497 % 2305843009213693951 := Int.emod_nonneg _ (by decide)
  have k1 : (y + 8221 * i + 7) * 5103497 % 2305843009213693951 < 2305843009213693951 := Int.emod_lt_of_pos _ (by decide)
  obtain ⟨a, h3, e⟩ := bagP_ok (M := M) (p := 8221) (q := 5103497) (r := 2305843009213693951) hx hy rfl (m3 _) m1 (by decide) (by decide)
  exact ⟨_, _, e, ⟨⟨a, 0, by simp, h3, by omega, by omega⟩, k0, by omega⟩, by simp, Frm.app _ _ _⟩
end LW
end
section
namespace LW
open PySem PySem.Spec Br PySem.NumText
theorem sne {ρ : En} {i j : Nat} {v : Option D} {x : Option (Option D)} (h : ρ[i]? = x) (hj : j ≠ i) : (ρ.set j v)[i]? = x := by rw [List.getElem?_set_ne hj]; exact h
theorem seq_ {ρ : En} {i : Nat} {v : Option D} (h : i < ρ.length) : (ρ.set i v)[i]? = some v := List.getElem?_set_self h
def V19 : List D := [.non, .bl true, .bl false, .int 0, .int 1, .int 2, .int 3, .int (-1), .int 9, .int 10, .int (10 ^ 40), .str "", .str "cache", .str "stale", .str "retry", .str "Cache", .str "lead", .lst [], .tup []]
def V10 : List D := [.tup [.int 0], .tup [.int 1], .tup [.int 0, .int 1], .tup [.int 1, .int 0], .tup [.int 0, .int 0], .lst [.int 0], .tup [.bl true], .tup [.str "cache"], .lst [.str "cache"], .tup [.str "once"]]
def V30 : List D := V19 ++ V10 ++ [.tup [.str "retry", .int 1, .tup [.int 0]]]
/-- data of no object -/
def plainB : D → Bool
  | .non | .bl _ | .int _ | .str _ | .tup _ | .lst _ => true
  | _ => false
theorem v30_plain : ∀ d ∈ V30, plainB d = true := by
  have : V30.all plainB = true := by decide +kernel
  exact fun d hd => List.all_eq_true.mp this d hd
theorem isi_str {d : D} (h : plainB d = true) (M : Mem) : ∃ z, gIsi [d, .ty "str"] M = .ok (.bl z) M := by
  cases d with
  | non => exact ⟨false, by kernel_rfl⟩
  | bl b => exact ⟨false, by kernel_rfl⟩
  | int i => exact ⟨false, by kernel_rfl⟩
  | str x => exact ⟨true, by kernel_rfl⟩
  | tup xs => exact ⟨false, by kernel_rfl⟩
  | lst xs => exact ⟨false, by kernel_rfl⟩
  | _ => cases h
theorem any_ok {bn : Nat} {b c : Int} {M : Mem} (hb : Bag M bn b c) (hc : c + 5 < 2 ^ 31) : ∃ d M', m__law_any [.ref bn] M = .ok d M' ∧ d ∈ V30 ∧ Frm [bn] M M' ∧ Bag M' bn b (c + 1) := by
  have hlt := hb.lt
  have key : wpE (m__law_any [.ref bn] M) (fun d M' => d ∈ V30 ∧ Frm [bn] M M' ∧ Bag M' bn b (c + 1)) (fun _ _ => False) := by
    unfold m__law_any b__law_any
    rw [run_w]
    refine sSeq_cut (fun ρ M' => ρ = [some (.ref bn), some (.lst V19)] ∧ M' = M) ?_ ?_
    · simp [szl, st0, V19]
      try decide
    rintro _ M' ⟨rfl, e'⟩
    rw [e']
    clear e' M'
    refine sSeq_cut (fun ρ M' => ρ = [some (.ref bn), some (.ref M.length)] ∧ M' = M ++ [.lst (V19 ++ V10)]) ?_ ?_
    · have h19 : V19.length = 19 := rfl
      simp [szl, h19]
      rfl
    rintro _ M' ⟨rfl, e'⟩
    have hq : M'[M.length]? = some (.lst (V19 ++ V10)) := by rw [e', List.getElem?_append_right (Nat.le_refl _), Nat.sub_self]; rfl
    have f1 : Frm [bn] M M' := by rw [e']; exact Frm.app _ _ _
    have b1 : Bag M' bn b c := by rw [e']; exact hb.frm (Frm.app [] _ _) (by simp)
    have hlM : M.length < M'.length := by rw [e']; simp
    clear e'
    refine sSeq_cut (fun ρ M2 => ρ = [some (.ref bn), some (.ref M.length)] ∧ M2 = M'.set M.length (.lst V30)) ?_ ?_
    · have h29 : (V19 ++ V10).length = 29 := rfl
      have hV : (V19 ++ V10) ++ [D.tup [.str "retry", .int 1, .tup [.int 0]]] = V30 := rfl
      generalize V19 ++ V10 = W at *
      simp [hq, szl, h29, hV]
    rintro _ M2 ⟨rfl, e'⟩
    have hq2 : M2[M.length]? = some (.lst V30) := by rw [e', List.getElem?_set_self hlM]
    have f2 : Frm [bn] M M2 := by
      rw [e']
      refine ⟨by rw [List.length_set]; exact f1.le, fun i hi hne => ?_⟩
      rw [List.getElem?_set_ne (by omega)]
      exact f1.same i hi hne
    have b2 : Bag M2 bn b c := by rw [e']; exact b1.frm (Frm.set [M.length] _ (n := M.length) _ (by simp)) (by simp; omega)
    clear e'
    rw [sRet_w, e2_w, eV_w]
    show wpV (some (some (.ref M.length))) _
    rw [wpV_s, eL_w, aC_w, eV_w]
    show wpV (some (some (.ref bn))) _
    rw [wpV_s, aC_w, eC_w, aN_w, gCall_w]
    refine ⟨rfl, ?_⟩
    refine take_w b2 (by omega) (by decide) (by decide) fun d M3 g1 g2 g3 g4 g5 => ?_
    obtain ⟨j, rfl⟩ := Int.eq_ofNat_of_zero_le g1
    have hj : j < V30.length := by
      have : V30.length = 30 := rfl
      omega
    have hq3 := g4.get hq2 (by simp; omega)
    have hat : L2.atI V30 (j : Int) = some V30[j] := by rw [atN, List.getElem?_eq_getElem hj]
    have hix : gIx (.ref M.length) (.int (j : Int)) M3 = .ok V30[j] M3 := by
      apply wpE_eq
      simp [hq3, hat]
    rw [hix]
    exact ⟨List.getElem_mem hj, f2.trans g4, g5⟩
  obtain ⟨d, M', e, r⟩ := wpE_ex' key
  exact ⟨d, M', e, r⟩
end LW
end
section
namespace LW
open PySem PySem.Spec Br
/-! ### what _law_kind and _law_field tell of each exception -/
/-- the classes with a field -/
def CF : List (Str × Str) := [("NoShape", "number"), ("NoLayer", "layer"), ("NoText", "place"), ("NoHistory", "at"), ("NoOrder", "order"), ("NoAnswer", "value"), ("NoEvent", "event"), ("NoPlace", "place"), ("NoArgument", "argument"), ("NoKind", "kind"), ("TooMany", "limit"), ("Fault", "kind")]
theorem kd_NoShape (f : Str) (ds : List D) (M : Mem) : m__law_kind [.exc "NoShape" f ds] M = .ok (.str "NoShape") M := by kernel_rfl
theorem kd_NoLayer (f : Str) (ds : List D) (M : Mem) : m__law_kind [.exc "NoLayer" f ds] M = .ok (.str "NoLayer") M := by kernel_rfl
theorem kd_NoText (f : Str) (ds : List D) (M : Mem) : m__law_kind [.exc "NoText" f ds] M = .ok (.str "NoText") M := by kernel_rfl
theorem kd_NoHistory (f : Str) (ds : List D) (M : Mem) : m__law_kind [.exc "NoHistory" f ds] M = .ok (.str "NoHistory") M := by kernel_rfl
theorem kd_NoOrder (f : Str) (ds : List D) (M : Mem) : m__law_kind [.exc "NoOrder" f ds] M = .ok (.str "NoOrder") M := by kernel_rfl
theorem kd_NoAnswer (f : Str) (ds : List D) (M : Mem) : m__law_kind [.exc "NoAnswer" f ds] M = .ok (.str "NoAnswer") M := by kernel_rfl
theorem kd_NoEvent (f : Str) (ds : List D) (M : Mem) : m__law_kind [.exc "NoEvent" f ds] M = .ok (.str "NoEvent") M := by kernel_rfl
theorem kd_NoPlace (f : Str) (ds : List D) (M : Mem) : m__law_kind [.exc "NoPlace" f ds] M = .ok (.str "NoPlace") M := by kernel_rfl
theorem kd_NoArgument (f : Str) (ds : List D) (M : Mem) : m__law_kind [.exc "NoArgument" f ds] M = .ok (.str "NoArgument") M := by kernel_rfl
theorem kd_NoKind (f : Str) (ds : List D) (M : Mem) : m__law_kind [.exc "NoKind" f ds] M = .ok (.str "NoKind") M := by kernel_rfl
theorem kd_TooMany (f : Str) (ds : List D) (M : Mem) : m__law_kind [.exc "TooMany" f ds] M = .ok (.str "TooMany") M := by kernel_rfl
theorem kd_Fault (f : Str) (ds : List D) (M : Mem) : m__law_kind [.exc "Fault" f ds] M = .ok (.str "Fault") M := by kernel_rfl
theorem kd_NoCommand (f : Str) (ds : List D) (M : Mem) : m__law_kind [.exc "NoCommand" f ds] M = .ok (.str "NoCommand") M := by kernel_rfl
theorem kd_Unlike (f : Str) (ds : List D) (M : Mem) : m__law_kind [.exc "Unlike" f ds] M = .ok (.str "Unlike") M := by kernel_rfl
theorem kd_Idle (f : Str) (ds : List D) (M : Mem) : m__law_kind [.exc "Idle" f ds] M = .ok (.str "Idle") M := by kernel_rfl
theorem fd_NoShape (d : D) (M : Mem) : m__law_field [.exc "NoShape" "number" [d], .str "NoShape"] M = .ok d M := by kernel_rfl
theorem fd_NoLayer (d : D) (M : Mem) : m__law_field [.exc "NoLayer" "layer" [d], .str "NoLayer"] M = .ok d M := by kernel_rfl
theorem fd_NoText (d : D) (M : Mem) : m__law_field [.exc "NoText" "place" [d], .str "NoText"] M = .ok d M := by kernel_rfl
theorem fd_NoHistory (d : D) (M : Mem) : m__law_field [.exc "NoHistory" "at" [d], .str "NoHistory"] M = .ok d M := by kernel_rfl
theorem fd_NoOrder (d : D) (M : Mem) : m__law_field [.exc "NoOrder" "order" [d], .str "NoOrder"] M = .ok d M := by kernel_rfl
theorem fd_NoAnswer (d : D) (M : Mem) : m__law_field [.exc "NoAnswer" "value" [d], .str "NoAnswer"] M = .ok d M := by kernel_rfl
theorem fd_NoEvent (d : D) (M : Mem) : m__law_field [.exc "NoEvent" "event" [d], .str "NoEvent"] M = .ok d M := by kernel_rfl
theorem fd_NoPlace (d : D) (M : Mem) : m__law_field [.exc "NoPlace" "place" [d], .str "NoPlace"] M = .ok d M := by kernel_rfl
theorem fd_NoArgument (d : D) (M : Mem) : m__law_field [.exc "NoArgument" "argument" [d], .str "NoArgument"] M = .ok d M := by kernel_rfl
theorem fd_NoKind (d : D) (M : Mem) : m__law_field [.exc "NoKind" "kind" [d], .str "NoKind"] M = .ok d M := by kernel_rfl
theorem fd_TooMany (d : D) (M : Mem) : m__law_field [.exc "TooMany" "limit" [d], .str "TooMany"] M = .ok d M := by kernel_rfl
theorem fd_Fault (d : D) (M : Mem) : m__law_field [.exc "Fault" "kind" [d], .str "Fault"] M = .ok d M := by kernel_rfl
theorem cf_ok (p : Str × Str) (hp : p ∈ CF) : (∀ (f : Str) (ds : List D) (M : Mem), m__law_kind [.exc p.1 f ds] M = .ok (.str p.1) M) ∧ ∀ (d : D) (M : Mem), m__law_field [.exc p.1 p.2 [d], .str p.1] M = .ok d M := by
  unfold CF at hp
  simp only [List.mem_cons, List.not_mem_nil, or_false] at hp
  rcases hp with rfl | rfl | rfl | rfl | rfl | rfl | rfl | rfl | rfl | rfl | rfl | rfl
  · exact ⟨kd_NoShape, fd_NoShape⟩
  · exact ⟨kd_NoLayer, fd_NoLayer⟩
  · exact ⟨kd_NoText, fd_NoText⟩
  · exact ⟨kd_NoHistory, fd_NoHistory⟩
  · exact ⟨kd_NoOrder, fd_NoOrder⟩
  · exact ⟨kd_NoAnswer, fd_NoAnswer⟩
  · exact ⟨kd_NoEvent, fd_NoEvent⟩
  · exact ⟨kd_NoPlace, fd_NoPlace⟩
  · exact ⟨kd_NoArgument, fd_NoArgument⟩
  · exact ⟨kd_NoKind, fd_NoKind⟩
  · exact ⟨kd_TooMany, fd_TooMany⟩
  · exact ⟨kd_Fault, fd_Fault⟩
theorem v30_rep (d : D) (hd : d ∈ V30) (M : Mem) : ∃ z, gRepr [d] M = .ok (.str z) M := by
  have : V30.all (fun d => okD 50 d && decide (dpD d ≤ 64) && decide (wtD d ≤ 200000)) = true := by decide +kernel
  have h := List.all_eq_true.mp this d hd
  simp only [Bool.and_eq_true, decide_eq_true_eq] at h
  exact repr_okD (B := 50) (by decide) (by decide) h.1.1 h.1.2 h.2 M
end LW
namespace Br
section
variable {gg : FG} {s1 : FStm} {n b c : En → Mem → Prop} {r : D → Mem → Prop} {x : Exn → En → Mem → Prop}
theorem forL_w {q : Nat} {ds : List D} (I : Nat → En → Mem → Prop) (hq : ∀ k ρ M, I k ρ M → M[q]? = some (.lst ds)) (ht : ∀ k y ρ M, ds[k]? = some y → I k ρ M → wpS (gg y ρ M) (fun ρ M => wpS (s1 ρ M) (I (k + 1)) r n (I (k + 1)) x) (fun _ _ => False) (fun _ _ => False) (fun _ _ => False) (fun _ _ _ => False)) (he : ∀ ρ M, I ds.length ρ M → n ρ M) :
    ∀ (m k : Nat) (ρ : En) (M : Mem), ds.length < m + k → k ≤ ds.length → I k ρ M → wpS (sForL gg s1 q m k ρ M) n r b c x
  | 0, k, ρ, M, h1, h2, h => by omega
  | m + 1, k, ρ, M, h1, h2, h => by
    unfold sForL
    rw [hq k ρ M h]
    dsimp only
    cases hk : ds[k]? with
    | none =>
      have hl : ds.length ≤ k := List.getElem?_eq_none_iff.mp hk
      have e : k = ds.length := by omega
      subst e
      exact he ρ M h
    | some y =>
      have hl := (List.getElem?_eq_some_iff.mp hk).1
      have h3 := ht k y ρ M hk h
      have ih := forL_w I hq ht he m (k + 1)
      dsimp only
      unfold turn
      cases hg : gg y ρ M with
      | go fl ρ1 M1 =>
        rw [hg] at h3
        cases fl with
        | nx =>
          dsimp only
          have h4 : wpS (s1 ρ1 M1) (I (k + 1)) r n (I (k + 1)) x := h3
          cases hs : s1 ρ1 M1 with
          | go fl ρ2 M2 =>
            rw [hs] at h4
            cases fl with
            | nx => exact ih ρ2 M2 (by omega) (by omega) h4
            | ret d => exact h4
            | bk => exact h4
            | ct => exact ih ρ2 M2 (by omega) (by omega) h4
          | ex e ρ2 M2 => rw [hs] at h4; exact h4
          | no => rw [hs] at h4; exact h4.elim
        | ret d => exact h3.elim
        | bk => exact h3.elim
        | ct => exact h3.elim
      | ex e ρ1 M1 => rw [hg] at h3; exact h3.elim
      | no => rw [hg] at h3; exact h3.elim
end
end Br
end
section
namespace LW
open PySem PySem.Spec Br
def itX (o t : D) (p : Str × Str) : D := .tup [.str p.1, .exc p.1 p.2 [o], .exc p.1 p.2 [t]]
def LX (o t : D) (k : Nat) : List D := (CF.take k).map (itX o t)
/-- the names of a turn -/
def R5 (ρ : En) (ns : List Int) (o t : D) (q : Nat) : Prop := (ρ[0]? = some (some (scriptD ns)) ∧ ρ[3]? = some (some o) ∧ ρ[4]? = some (some t) ∧ ρ[5]? = some (some (.ref q))) ∧ ρ.length = 11
theorem R5.set {ρ : En} {ns : List Int} {o t : D} {q i : Nat} {v : Option D} (h : R5 ρ ns o t q) (hi : 6 ≤ i) : R5 (ρ.set i v) ns o t q := by
  obtain ⟨⟨h0, h2, h3, h5⟩, h4⟩ := h
  exact ⟨⟨sne h0 (by omega), sne h2 (by omega), sne h3 (by omega), sne h5 (by omega)⟩, by rw [List.length_set]; exact h4⟩
theorem app_step {ns : List Int} {ρ : En} {o t : D} {q k : Nat} {M : Mem} {c f : Str} (hk : CF[k]? = some (c, f)) (R : R5 ρ ns o t q) (hq : M[q]? = some (.lst (LX o t k))) :
    wpS (sDrop (eAppend (eV 5) (aC (eL gTup (aC (eC (D.str c)) (aC (eL (gMkG c f) (aC (eV 3) aN)) (aC (eL (gMkG c f) (aC (eV 4) aN)) aN)))) aN)) ρ M) (fun ρ' M' => R5 ρ' ns o t q ∧ M'[q]? = some (.lst (LX o t (k + 1)))) (fun _ _ => False) (fun _ _ => False) (fun _ _ => False) (fun _ _ _ => False) := by
  have hl := (List.getElem?_eq_some_iff.mp hk).1
  have hL : LX o t (k + 1) = LX o t k ++ [itX o t (c, f)] := by
    unfold LX
    rw [List.take_succ, hk]
    simp
  have hlen : (LX o t k).length = k := by unfold LX; simp; omega
  have hk12 : k < 12 := hl
  have hqm := (List.getElem?_eq_some_iff.mp hq).1
  have e1 : ∀ (d : D) (M : Mem), gMkG c f [d] M = .ok (.exc c f [d]) M := fun _ _ => rfl
  rw [hL]
  generalize LX o t k = W at *
  have hz : W.length + 1 ≤ sizeLine := by rw [szl]; omega
  obtain ⟨⟨h0, h3, h4, h5⟩, h11⟩ := R
  simp [h3, h4, h5, hq, szl, e1, itX]
  try simp [List.getElem?_set_self hqm]
  exact ⟨by omega, ⟨⟨h0, h3, h4, h5⟩, h11⟩⟩
theorem l0_ok {ns : List Int} {ρ : En} {o t : D} {q : Nat} {M : Mem} {p : Str × Str} (hp : p ∈ CF) (ho : ∀ M, ∃ z, gRepr [o] M = .ok (.str z) M) (ht : ∀ M, ∃ z, gRepr [t] M = .ok (.str z) M) (R : R5 ρ ns o t q)
    (h6 : ρ[6]? = some (some (.str p.1))) (h7 : ρ[7]? = some (some (.exc p.1 p.2 [o]))) (h8 : ρ[8]? = some (some (.exc p.1 p.2 [t]))) :
    wpS (l0_law ρ M) (fun ρ' M' => ρ' = ρ ∧ M' = M) (fun _ _ => False) (fun _ _ => False) (fun _ _ => False) (fun _ _ _ => False) := by
  obtain ⟨hkd, hfd⟩ := cf_ok p hp
  obtain ⟨⟨h0, h3, h4, h5⟩, h11⟩ := R
  obtain ⟨z1, e1⟩ := ho M
  obtain ⟨z2, e2⟩ := ht M
  generalize hG1 : m__law_kind = G1 at hkd
  generalize hG2 : m__law_field = G2 at hfd
  unfold l0_law
  rw [hG1, hG2]
  refine sSeq_cut (fun ρ' M' => ρ' = ρ ∧ M' = M) ?_ ?_
  · simp [h6, h7, h8, hkd]
  rintro _ M' ⟨rfl, rfl⟩
  simp [h6, h7, h8, h3, h4, hfd, e1, e2]
end LW
end
section
namespace LW
open PySem PySem.Spec Br
def V9 : D := .lst [.tup [.str "NoCommand", .exc "NoCommand" "" []], .tup [.str "Unlike", .exc "Unlike" "" []], .tup [.str "Idle", .exc "Idle" "" []]]
def lastS : FStm := (sSeq (sAsg (eL gLst (aC (eL gTup (aC (eC (D.str "NoCommand")) (aC (eL (gMk0 "NoCommand") aN) aN))) (aC (eL gTup (aC (eC (D.str "Unlike")) (aC (eL (gMk0 "Unlike") aN) aN))) (aC (eL gTup (aC (eC (D.str "Idle")) (aC (eL (gMk0 "Idle") aN) aN))) aN)))) (gN 9))
    (sIf (Br.tC (e2 gNe (eLcV [6, 10] (wIt (eV 9)) (gTp 2 (gsC (gN 6) (gsC (gN 10) gsN))) tYesM (eL (gCall 1 (fun ds _ => ds) m__law_kind) (aC (eV 10) aN))) (eLcV [6, 10] (wIt (eV 9)) (gTp 2 (gsC (gN 6) (gsC (gN 10) gsN))) tYesM (eV 6)))) (sRet (eC (D.bl false))) sNx))
theorem last_ok (x0 x1 x2 x3 x4 x5 x6 x7 x8 x9 x10 : Option D) (M : Mem) : lastS [x0, x1, x2, x3, x4, x5, x6, x7, x8, x9, x10] M = .go .nx [x0, x1, x2, x3, x4, x5, x6, x7, x8, some V9, x10] M := by kernel_rfl
theorem last_w {ns : List Int} {ρ : En} {M : Mem} (h0 : ρ[0]? = some (some (scriptD ns))) (hl : ρ.length = 11) : wpS (lastS ρ M) (fun ρ' M' => ρ'[0]? = some (some (scriptD ns)) ∧ ρ'.length = 11) (fun _ _ => False) (fun _ _ => False) (fun _ _ => False) (fun _ _ _ => False) := by
  match ρ, hl with
  | [x0, x1, x2, x3, x4, x5, x6, x7, x8, x9, x10], _ =>
    rw [last_ok]
    exact ⟨by simpa using h0, rfl⟩
theorem l1_ok {ns : List Int} {i : Nat} {ρ : En} {M : Mem} (hi : i < 64) (r0 : ρ[0]? = some (some (scriptD ns))) (r1 : ρ[1]? = some (some (.int (i : Int)))) (rl : ρ.length = 11) :
    wpS (l1_law ρ M) (fun ρ' M' => ρ'[0]? = some (some (scriptD ns)) ∧ ρ'.length = 11) (fun _ _ => False) (fun _ _ => False) (fun _ _ => False) (fun _ _ _ => False) := by
  generalize hL0 : l0_law = L0
  unfold l1_law
  rw [hL0]
  -- the bag
  refine sSeq_cut (fun ρ' M' => ∃ bn b, (ρ'[0]? = some (some (scriptD ns)) ∧ ρ'[2]? = some (some (.ref bn)) ∧ ρ'.length = 11) ∧ Bag M' bn b 0) ?_ ?_
  · obtain ⟨b, M', e, b1, _, f1⟩ := bag_new ns M i hi
    rw [sAsg_w, eL_w, aC_w, eV_w, r0, wpV_s, aC_w, eV_w, r1, wpV_s, aN_w, gCall_w]
    refine ⟨rfl, ?_⟩
    rw [e, wpE_ok, gN_w]
    exact ⟨M.length, b, ⟨sne r0 (by omega), seq_ (by omega), by rw [List.length_set]; exact rl⟩, b1⟩
  rintro ρ1 M1 ⟨bn, b, ⟨q0, q2, ql⟩, b1⟩
  -- the two values
  refine sSeq_cut (fun ρ' M' => ∃ o t, (o ∈ V30 ∧ t ∈ V30) ∧ (ρ'[0]? = some (some (scriptD ns)) ∧ ρ'[3]? = some (some o) ∧ ρ'[4]? = some (some t) ∧ ρ'.length = 11)) ?_ ?_
  · obtain ⟨o, M2, e2, ho, f2, b2⟩ := any_ok b1 (by omega)
    obtain ⟨t, M3, e3, ht, f3, b3⟩ := any_ok b2 (by omega)
    rw [sPar_w, aC_w, eL_w, aC_w, eV_w, q2, wpV_s, aN_w, gCall_w]
    refine ⟨rfl, ?_⟩
    rw [e2, wpE_ok, aC_w, eL_w, aC_w, eV_w, q2, wpV_s, aN_w, gCall_w]
    refine ⟨rfl, ?_⟩
    rw [e3, wpE_ok, aN_w]
    refine ⟨rfl, o, t, ⟨ho, ht⟩, sne (sne q0 (by omega)) (by omega), sne (seq_ (by omega)) (by omega), seq_ (by rw [List.length_set]; omega), by simp [setAll]; exact ql⟩
  rintro ρ2 M2 ⟨o, t, ⟨ho, ht⟩, p0, p3, p4, pl⟩
  -- the first pair
  refine sSeq_cut (fun ρ' M' => ∃ q, R5 ρ' ns o t q ∧ M'[q]? = some (.lst (LX o t 1))) ?_ ?_
  · have e1 : ∀ (d : D) (M : Mem), gMkG "NoShape" "number" [d] M = .ok (.exc "NoShape" "number" [d]) M := fun _ _ => rfl
    have hL : LX o t 1 = [itX o t ("NoShape", "number")] := rfl
    rw [hL]
    simp [p3, p4, e1, szl, itX]
    exact ⟨M2.length, ⟨⟨sne p0 (by omega), sne p3 (by omega), sne p4 (by omega), seq_ (by omega)⟩, by rw [List.length_set]; exact pl⟩, by rw [List.getElem?_append_right (Nat.le_refl _), Nat.sub_self]; rfl⟩
  rintro ρ3 M3 ⟨q, S3, w3⟩
  refine sSeq_cut (fun ρ' M' => R5 ρ' ns o t q ∧ M'[q]? = some (.lst (LX o t 2))) (app_step (k := 1) rfl S3 w3) ?_
  rintro ρ4 M4 ⟨S4, w4⟩
  refine sSeq_cut (fun ρ' M' => R5 ρ' ns o t q ∧ M'[q]? = some (.lst (LX o t 3))) (app_step (k := 2) rfl S4 w4) ?_
  rintro ρ5 M5 ⟨S5, w5⟩
  refine sSeq_cut (fun ρ' M' => R5 ρ' ns o t q ∧ M'[q]? = some (.lst (LX o t 4))) (app_step (k := 3) rfl S5 w5) ?_
  rintro ρ6 M6 ⟨S6, w6⟩
  refine sSeq_cut (fun ρ' M' => R5 ρ' ns o t q ∧ M'[q]? = some (.lst (LX o t 5))) (app_step (k := 4) rfl S6 w6) ?_
  rintro ρ7 M7 ⟨S7, w7⟩
  refine sSeq_cut (fun ρ' M' => R5 ρ' ns o t q ∧ M'[q]? = some (.lst (LX o t 6))) (app_step (k := 5) rfl S7 w7) ?_
  rintro ρ8 M8 ⟨S8, w8⟩
  refine sSeq_cut (fun ρ' M' => R5 ρ' ns o t q ∧ M'[q]? = some (.lst (LX o t 7))) (app_step (k := 6) rfl S8 w8) ?_
  rintro ρ9 M9 ⟨S9, w9⟩
  refine sSeq_cut (fun ρ' M' => R5 ρ' ns o t q ∧ M'[q]? = some (.lst (LX o t 8))) (app_step (k := 7) rfl S9 w9) ?_
  rintro ρ10 M10 ⟨S10, w10⟩
  refine sSeq_cut (fun ρ' M' => R5 ρ' ns o t q ∧ M'[q]? = some (.lst (LX o t 9))) (app_step (k := 8) rfl S10 w10) ?_
  rintro ρ11 M11 ⟨S11, w11⟩
  refine sSeq_cut (fun ρ' M' => R5 ρ' ns o t q ∧ M'[q]? = some (.lst (LX o t 10))) (app_step (k := 9) rfl S11 w11) ?_
  rintro ρ12 M12 ⟨S12, w12⟩
  refine sSeq_cut (fun ρ' M' => R5 ρ' ns o t q ∧ M'[q]? = some (.lst (LX o t 11))) (app_step (k := 10) rfl S12 w12) ?_
  rintro ρ13 M13 ⟨S13, w13⟩
  refine sSeq_cut (fun ρ' M' => R5 ρ' ns o t q ∧ M'[q]? = some (.lst (LX o t 12))) (app_step (k := 11) rfl S13 w13) ?_
  rintro ρ14 M14 ⟨S14, w14⟩
  -- the walk
  refine sSeq_cut (fun ρ' M' => ρ'[0]? = some (some (scriptD ns)) ∧ ρ'.length = 11) ?_ ?_
  · have rep := fun (d : D) (hd : d ∈ V30) (M : Mem) => v30_rep d hd M
    rw [sForE_w, wIt_w, eV_w, S14.1.2.2.2, wpV_s]
    have hwk : wkOf M14 (.ref q) = some (.obj q) := by unfold wkOf; dsimp only; rw [w14]
    rw [hwk]
    show wpS (sForL _ _ q 100 0 ρ14 M14) _ _ _ _ _
    have hlen : (LX o t 12).length = 12 := by unfold LX; simp [CF]
    refine forL_w (ds := LX o t 12) (fun k ρ M => R5 ρ ns o t q ∧ M[q]? = some (.lst (LX o t 12))) (fun k ρ M h => h.2) (fun k y ρ M hy h => ?_) (fun ρ M h => ⟨h.1.1.1, h.1.2⟩) 100 0 ρ14 M14 (by omega) (by omega) ⟨S14, w14⟩
    obtain ⟨R, hq⟩ := h
    have hy' : ∃ p ∈ CF, y = itX o t p := by
      unfold LX at hy
      have := List.mem_of_getElem? hy
      obtain ⟨p, hp, e⟩ := List.mem_map.mp this
      exact ⟨p, List.mem_of_mem_take hp, e.symm⟩
    obtain ⟨p, hp, rfl⟩ := hy'
    have hl := R.2
    unfold itX
    rw [gTp_w]
    refine ⟨rfl, ?_⟩
    rw [gsC_w, gN_w, gsC_w, gN_w, gsC_w, gN_w, gsN_w, ← hL0]
    have R' : R5 (((ρ.set 6 (some (.str p.1))).set 7 (some (.exc p.1 p.2 [o]))).set 8 (some (.exc p.1 p.2 [t]))) ns o t q := ((R.set (by omega)).set (by omega)).set (by omega)
    refine wpS_mono (l0_ok hp (rep o ho) (rep t ht) R' (sne (sne (seq_ (by omega)) (by omega)) (by omega)) (sne (seq_ (by rw [List.length_set]; omega)) (by omega)) (seq_ (by rw [List.length_set, List.length_set]; omega))) (fun ρ M h => ?_) (fun _ _ z => z.elim) (fun _ _ z => z.elim) (fun _ _ z => z.elim) (fun _ _ _ z => z.elim)
    obtain ⟨rfl, rfl⟩ := h
    exact ⟨R', hq⟩
  rintro ρ15 M15 ⟨h0, hl⟩
  exact last_w h0 hl
end LW
end
section
namespace LW
open PySem PySem.Spec Br
theorem plain (ns : List Int) (hn : ns.length ≤ 63) : ∃ M, m_law [scriptD ns] [] = .ok (.bl true) M := by
  unfold m_law
  suffices h : ∃ M', Br.run b_law 11 [scriptD ns] [] = .ok (.bl true) M' ∧ (fun (_ : D) (_ : Mem) => True) .non M' by
    obtain ⟨M', h, _⟩ := h; exact ⟨M', h⟩
  refine run_cut (Q := fun _ _ => True) ?_
  have hsc : scriptD ns = .lst (ns.map .int) := rfl
  unfold b_law
  refine sSeq_cut (fun ρ M' => ρ[0]? = some (some (scriptD ns)) ∧ ρ.length = 11) ?_ ?_
  · generalize hG : l1_law = LG
    rw [sForE_w]
    simp [wRng1_w, st0]
    rw [hsc]
    simp
    generalize hm : (if 2 < (if (ns.length : Int) < 6 then (ns.length : Int) else 6) then (if (ns.length : Int) < 6 then (ns.length : Int) else 6) else 2) = m
    have hm4 : 2 ≤ m ∧ m ≤ 6 := by rw [← hm]; split <;> split <;> omega
    refine ⟨by omega, ?_⟩
    rw [← hsc]
    refine for_w (fun zs ρ M => ∃ k : Nat, (zs = (rangeD 0 m.toNat).drop k) ∧ k ≤ 6 ∧ ρ[0]? = some (some (scriptD ns)) ∧ ρ.length = 11) (fun y zs ρ M hI => ?_) (fun ρ M hI => ?_) _ _ _ ⟨0, rfl, by omega, rfl, rfl⟩
    · obtain ⟨k, hz, h4, r0, rl⟩ := hI
      have hy : y = .int (k : Int) ∧ k < 6 := by
        have h0 : (rangeD 0 m.toNat)[k]? = some y := by
          have := congrArg (fun l => l[0]?) hz
          simpa using this.symm
        have hk := (List.getElem?_eq_some_iff.mp h0).1
        simp [rangeD] at hk h0
        obtain ⟨w, h0, h1⟩ := h0
        obtain ⟨_, e⟩ := List.getElem?_eq_some_iff.mp h0
        simp at e
        subst e
        exact ⟨h1.symm, by omega⟩
      obtain ⟨rfl, hk⟩ := hy
      rw [gN_w, ← hG]
      refine wpS_mono (l1_ok (ns := ns) (i := k) (M := M) (by omega) (sne r0 (by omega)) (seq_ (by omega)) (by rw [List.length_set]; exact rl)) (fun ρ M h => ?_) (fun _ _ z => z.elim) (fun _ _ z => z.elim) (fun _ _ z => z.elim) (fun _ _ _ z => z.elim)
      refine ⟨k + 1, ?_, by omega, h.1, h.2⟩
      have := congrArg List.tail hz
      simpa using this
    · obtain ⟨k, hz, h4, h⟩ := hI
      exact h
  rintro ρ M ⟨r0, rl⟩
  rw [sRet_w, eC_w]
  exact ⟨rfl, trivial⟩
end LW
end
section
set_option maxHeartbeats 0
open PySem PySem.W PySem.Calls PyProof.Rows
theorem PySem.Challenge.cw_callayers_k24_errors_made_holds : PySem.Challenge.rw_callayers_k24_errors_made.Holds := by
  w_on; o_law
  refine HandSHeadRun.head_any (r := OpenLaw.row PySem.Challenge.rw_callayers_k24_errors_made) (q := view (OpenLaw.row PySem.Challenge.rw_callayers_k24_errors_made).prog [22]) (H := LW.hk) (ob := LW.ob) (M := 30000) (loose := LW.nms) (d := HandSHeadRun.topDef (OpenLaw.row PySem.Challenge.rw_callayers_k24_errors_made).prog 22) (kwd := []) LW.ob_eq
    (by kernel_rfl) (fun s => by kernel_rfl) LW.run_ (by kernel_rfl) (by kernel_rfl) (by kernel_rfl) (by rfl) (by first | assumption | decide +kernel) (by decide +kernel) ⟨rfl, rfl, rfl, rfl, rfl, by decide +kernel⟩ ?hw ?hc
  case hw => w_witness2
  case hc =>
    refine Br.walkM (l := PySem.Challenge.rw_callayers_k24_errors_made) (n := 63) (k := 4) (x := "_law_script") (m := LW.m_law) rfl (by decide) (by kernel_rfl) ⟨rfl, by decide, by decide⟩ rfl ?F ?L
    case F =>
      intro w mg fa h Y G hmg0
      obtain ⟨K, KX, c⟩ := Y
      have hmg : mg ("law" : PySem.Str) = some (.ref fa) := by
        have e : (HandSHeadRun.topDef (OpenLaw.row PySem.Challenge.rw_callayers_k24_errors_made).prog 22).name = ("law" : PySem.Str) := by kernel_rfl
        rw [← e]
        exact hmg0
      obtain ⟨fd, hF⟩ := LW.facts KX G hmg c
      exact ⟨K, fd, KX, hF⟩
    case L => exact LW.plain
end
