import PyProof.Rows.All
import Wide.All
import OpenK.AllK
import Wide.FinOn
import HandS.ForMost
import HandS.ForExc
import HandS.CallSlots
import HandS.TryMany
import HandS.Flow
import HandS.Defaults
import HandS.HeadHook1
import HandS.HeadHook2
import KE.GoesMore
import KE.GoesNew
import KE.GoesEnum
import HandS.IsInst
import HandS.Deep
import HandS.TupAny
import HandS.TupMul
import HandS.Wide
import HandS.TupSets
import KE.KExcSuper
import KE.KExcLine
import HandS.ExcInit
import HandS.ExcSuper
import HandS.Head0
import HandS.Head1
import HandS.Head2
import HandS.HeadEnd
import HandS.Ends
import HandS.EndBits
import PyProof.IsiNone
import PyProof.InstEq
import HandS.OwnEq
import HandS.ListItems
import PyProof.FitsInt
import KE.KStateDown
import PySem.Challenge.RW_anyprice_k01_rows_and_costs
set_option Elab.async false
set_option linter.all false
set_option maxRecDepth 100000
set_option maxHeartbeats 2000000
/-! Z0: trees in the place of heaps: values as trees, a small store for what is changed, what it means that a state stands for them. -/
namespace Zy
open PySem PySem.Spec PyProof.Rows L2

/-- a value as a tree; ob: an object of the module's top; ins: an instance that no one changes -/
inductive T where
  | non | bl (b : Bool) | int (i : Int) | str (x : Str) | ty (n : String) | ob (a : Addr)
  | tup (l : List T) | lst (l : List T) | scr (l : List T) | dk (ks : List Key) (l : List T) | dt (ks : List (List Key)) (l : List T) | ins (C : Addr) (ns : List Str) (l : List T) | er (a dd : Addr) (ns : List Str) (l : List T)

/-- a tree, or a thing of the store -/
inductive D where
  | t (x : T) | r (i : Nat)
/-- what stands in the store -/
inductive MO where
  | lst (l : List D) | tup (l : List D) | dk (ks : List Key) (l : List D) | dt (ks : List (List Key)) (l : List D) | ins (C : Addr) (ns : List Str) (l : List D) | dead
abbrev En := List (Option D)
abbrev Mu := List MO

abbrev Fz := Addr → Prop

/-- a tuple that is read: tracked or of the module -/
def RdT (K : PySem.W.Frag) (H : Hp) (a : Addr) (xs : List V) : Prop :=
  H a = some (.tup xs) ∨
    ∃ (o : Obj) (its : Array Value) (n : Nat), K.lookup a = some o ∧ o.cls = .type "tuple" ∧ o.data = .seq its n ∧ its.size ≤ sizeLine ∧ Vals xs its.toList
def RdL (K : PySem.W.Frag) (F : Fz) (H : Hp) (a : Addr) (xs : List V) : Prop :=
  (F a ∧ Rd H a (.lst xs)) ∨
    ∃ (o : Obj) (its : Array Value) (n : Nat), K.lookup a = some o ∧ o.cls = .type "list" ∧ o.dict = none ∧ o.data = .seq its n ∧ its.size ≤ sizeLine ∧ Vals xs its.toList
theorem RdT.sq {K : PySem.W.Frag} {H : Hp} {a : Addr} {xs : List V} (h : RdT K H a xs) : SqT K H a xs := by
  rcases h with h | h
  · exact .inl (.inl h)
  · exact .inr h
theorem RdL.sq {K : PySem.W.Frag} {F : Fz} {H : Hp} {a : Addr} {xs : List V} (h : RdL K F H a xs) : SqL K H a xs := by
  rcases h with h | h
  · exact .inl h.2
  · exact .inr h

mutual
/-- v stands for the tree; what of it could be changed is frozen -/
def Rep (K : PySem.W.Frag) (F : Fz) (H : Hp) : T → V → Prop
  | .non, v => v = .non
  | .bl b, v => v = .bl b
  | .int i, v => v = .int i
  | .str x, v => v = .str x
  | .ty n, v => v = .ty n
  | .ob a, v => v = .ref a
  | .tup l, v => l.length ≤ sizeLine ∧ ∃ a xs, v = .ref a ∧ RdT K H a xs ∧ RepL K F H l xs
  | .lst l, v => l.length ≤ sizeLine ∧ ∃ a xs, v = .ref a ∧ F a ∧ H a = some (.lst xs) ∧ RepL K F H l xs
  | .scr l, v => l.length ≤ sizeLine ∧ ∃ a xs, v = .ref a ∧ RdL K F H a xs ∧ RepL K F H l xs
  | .dk ks l, v => ∃ a xs, v = .ref a ∧ F a ∧ H a = some (.dK (ks.zip xs)) ∧ ks.length = l.length ∧ RepL K F H l xs
  | .dt ks l, v => ∃ a xs, v = .ref a ∧ F a ∧ H a = some (.dT (ks.zip xs)) ∧ ks.length = l.length ∧ RepL K F H l xs
  | .ins C ns l, v => ∃ a dx xs, v = .ref a ∧ F a ∧ H a = some (.ins C dx (ns.zip xs)) ∧ ns.length = l.length ∧ RepL K F H l xs
  | .er a dd ns l, v => v = .ref a ∧ ∃ xs, F dd ∧ H dd = some (.xd (ns.zip xs)) ∧ ns.length = l.length ∧ RepL K F H l xs
def RepL (K : PySem.W.Frag) (F : Fz) (H : Hp) : List T → List V → Prop
  | [], xs => xs = []
  | t :: l, xs => ∃ x r, xs = x :: r ∧ Rep K F H t x ∧ RepL K F H l r
end

def RepD (K : PySem.W.Frag) (F : Fz) (β : List Addr) (H : Hp) : D → V → Prop
  | .t x, v => Rep K F H x v
  | .r i, v => ∃ a, β[i]? = some a ∧ v = .ref a
def RepDs (K : PySem.W.Frag) (F : Fz) (β : List Addr) (H : Hp) : List D → List V → Prop
  | [], xs => xs = []
  | d :: l, xs => ∃ x r, xs = x :: r ∧ RepD K F β H d x ∧ RepDs K F β H l r

def MOk (K : PySem.W.Frag) (F : Fz) (β : List Addr) (H : Hp) (a : Addr) : MO → Prop
  | .lst ds => ¬ F a ∧ ∃ xs, H a = some (.lst xs) ∧ RepDs K F β H ds xs
  | .tup ds => ∃ xs, H a = some (.tup xs) ∧ RepDs K F β H ds xs
  | .dk ks ds => ¬ F a ∧ ∃ xs, H a = some (.dK (ks.zip xs)) ∧ ks.length = ds.length ∧ RepDs K F β H ds xs
  | .dt ks ds => ¬ F a ∧ ∃ xs, H a = some (.dT (ks.zip xs)) ∧ ks.length = ds.length ∧ RepDs K F β H ds xs
  | .ins C ns ds => ¬ F a ∧ ∃ dx xs, H a = some (.ins C dx (ns.zip xs)) ∧ ns.length = ds.length ∧ RepDs K F β H ds xs
  | .dead => True

/-- the store is held -/
structure Sto (K : PySem.W.Frag) (F : Fz) (β : List Addr) (H : Hp) (μ : Mu) : Prop where
  len : β.length = μ.length
  nd : β.Nodup
  ok : ∀ (i : Nat) a m, β[i]? = some a → μ[i]? = some m → MOk K F β H a m
  ftr : ∀ a, F a → H a ≠ none
  btr : ∀ a ∈ β, H a ≠ none
/-- the slots are held -/
structure Slo (K : PySem.W.Frag) (F : Fz) (β : List Addr) (H : Hp) (ρ : En) (σ : L2.St) : Prop where
  len : ρ.length = σ.length
  ok : ∀ (i : Nat) d, ρ[i]? = some (some d) → ∃ v, σ[i]? = some (some v) ∧ RepD K F β H d v

/-- from one state to a later one -/
structure Stp (F : Fz) (β : List Addr) (H : Hp) (F' : Fz) (β' : List Addr) (H' : Hp) : Prop where
  f : ∀ a, F a → F' a
  h : ∀ a, F a → H' a = H a
  t : ∀ a xs, H a = some (.tup xs) → H' a = some (.tup xs)
  b : β <+: β'
  k : ∀ a o, H a = some o → a ∉ β → ¬ F a → H' a = some o
  n : ∀ a ∈ β', a ∈ β ∨ H a = none
  g : ∀ a, F' a → F a ∨ a ∈ β ∨ H a = none
  s : ∀ a, H a ≠ none → H' a ≠ none

/-- what trees lean on -/
structure Mon (F : Fz) (β : List Addr) (H : Hp) (F' : Fz) (β' : List Addr) (H' : Hp) : Prop where
  f : ∀ a, F a → F' a
  h : ∀ a, F a → H' a = H a
  t : ∀ a xs, H a = some (.tup xs) → H' a = some (.tup xs)
  b : β <+: β'
section
variable {K : PySem.W.Frag} {F F' F2 : Fz} {β β' β2 : List Addr} {H H' H2 : Hp} {μ μ' : Mu} {ρ : En} {σ : L2.St}
theorem Stp.mon (p : Stp F β H F' β' H') : Mon F β H F' β' H' := ⟨p.f, p.h, p.t, p.b⟩
theorem Stp.refl : Stp F β H F β H := ⟨fun _ h => h, fun _ _ => rfl, fun _ _ h => h, List.prefix_refl _, fun _ _ h _ _ => h, fun _ h => .inl h, fun _ h => .inl h, fun _ h => h⟩
theorem Stp.trans (p : Stp F β H F' β' H') (q : Stp F' β' H' F2 β2 H2) : Stp F β H F2 β2 H2 where
  f := fun a h => q.f a (p.f a h)
  h := fun a h => (q.h a (p.f a h)).trans (p.h a h)
  t := fun a xs h => q.t a xs (p.t a xs h)
  b := p.b.trans q.b
  k := fun a o h nb nf => by
    have nb' : a ∉ β' := fun z => by
      rcases p.n a z with y | y
      · exact nb y
      · rw [h] at y; cases y
    have nf' : ¬ F' a := fun z => by
      rcases p.g a z with y | y | y
      · exact nf y
      · exact nb y
      · rw [h] at y; cases y
    exact q.k a o (p.k a o h nb nf) nb' nf'
  n := fun a h => by
    rcases q.n a h with z | z
    · exact p.n a z
    · refine .inr ?_
      cases e : H a with
      | none => rfl
      | some o => exact absurd z (p.s a (by rw [e]; exact fun y => nomatch y))
  g := fun a h => by
    rcases q.g a h with z | z | z
    · exact p.g a z
    · rcases p.n a z with y | y
      · exact .inr (.inl y)
      · exact .inr (.inr y)
    · refine .inr (.inr ?_)
      cases e : H a with
      | none => rfl
      | some o => exact absurd z (p.s a (by rw [e]; exact fun y => nomatch y))
  s := fun a h => q.s a (p.s a h)

theorem Mon.rd (p : Mon F β H F' β' H') {a : Addr} {u : HO} (f : F a) (h : Rd H a u) : Rd H' a u := by
  unfold Rd; rw [p.h a f]; exact h
theorem RdT.mon (p : Mon F β H F' β' H') {a : Addr} {xs : List V} (h : RdT K H a xs) : RdT K H' a xs := by
  rcases h with h | h
  · exact .inl (p.t a xs h)
  · exact .inr h
theorem RdL.mon (p : Mon F β H F' β' H') {a : Addr} {xs : List V} (h : RdL K F H a xs) : RdL K F' H' a xs := by
  rcases h with h | h
  · exact .inl ⟨p.f a h.1, p.rd h.1 h.2⟩
  · exact .inr h
mutual
theorem Rep.mon (p : Mon F β H F' β' H') : ∀ (t : T) (v : V), Rep K F H t v → Rep K F' H' t v
  | .non, v, h => by unfold Rep at h ⊢; exact h
  | .bl _, v, h => by unfold Rep at h ⊢; exact h
  | .int _, v, h => by unfold Rep at h ⊢; exact h
  | .str _, v, h => by unfold Rep at h ⊢; exact h
  | .ty _, v, h => by unfold Rep at h ⊢; exact h
  | .ob _, v, h => by unfold Rep at h ⊢; exact h
  | .tup l, v, h => by
    unfold Rep at h ⊢
    obtain ⟨z, a, xs, e, r, q⟩ := h
    exact ⟨z, a, xs, e, r.mon p, RepL.mon p l xs q⟩
  | .lst l, v, h => by
    unfold Rep at h ⊢
    obtain ⟨z, a, xs, e, f, r, q⟩ := h
    exact ⟨z, a, xs, e, p.f a f, (p.h a f).trans r, RepL.mon p l xs q⟩
  | .scr l, v, h => by
    unfold Rep at h ⊢
    obtain ⟨z, a, xs, e, r, q⟩ := h
    exact ⟨z, a, xs, e, r.mon p, RepL.mon p l xs q⟩
  | .dk ks l, v, h => by
    unfold Rep at h ⊢
    obtain ⟨a, xs, e, f, r, z, q⟩ := h
    exact ⟨a, xs, e, p.f a f, (p.h a f).trans r, z, RepL.mon p l xs q⟩
  | .dt ks l, v, h => by
    unfold Rep at h ⊢
    obtain ⟨a, xs, e, f, r, z, q⟩ := h
    exact ⟨a, xs, e, p.f a f, (p.h a f).trans r, z, RepL.mon p l xs q⟩
  | .ins C ns l, v, h => by
    unfold Rep at h ⊢
    obtain ⟨a, dx, xs, e, f, r, z, q⟩ := h
    exact ⟨a, dx, xs, e, p.f a f, (p.h a f).trans r, z, RepL.mon p l xs q⟩
  | .er a dd ns l, v, h => by
    unfold Rep at h ⊢
    obtain ⟨e, xs, f, r, z, q⟩ := h
    exact ⟨e, xs, p.f dd f, (p.h dd f).trans r, z, RepL.mon p l xs q⟩
theorem RepL.mon (p : Mon F β H F' β' H') : ∀ (l : List T) (xs : List V), RepL K F H l xs → RepL K F' H' l xs
  | [], xs, h => by unfold RepL at h ⊢; exact h
  | t :: l, xs, h => by
    unfold RepL at h ⊢
    obtain ⟨x, r, e, q1, q2⟩ := h
    exact ⟨x, r, e, Rep.mon p t x q1, RepL.mon p l r q2⟩
end
theorem RepD.mon (p : Mon F β H F' β' H') {d : D} {v : V} (h : RepD K F β H d v) : RepD K F' β' H' d v := by
  cases d with
  | t x => exact Rep.mon p x v h
  | r i =>
    obtain ⟨a, e, e'⟩ := h
    obtain ⟨l, rfl⟩ := p.b
    have hi : i < β.length := (List.getElem?_eq_some_iff.mp e).1
    exact ⟨a, by rw [List.getElem?_append_left hi]; exact e, e'⟩
theorem RepDs.mon (p : Mon F β H F' β' H') : ∀ {l : List D} {xs : List V}, RepDs K F β H l xs → RepDs K F' β' H' l xs
  | [], xs, h => h
  | d :: l, xs, ⟨x, r, e, q1, q2⟩ => ⟨x, r, e, q1.mon p, q2.mon p⟩
theorem Slo.mon (p : Mon F β H F' β' H') (s : Slo K F β H ρ σ) : Slo K F' β' H' ρ σ :=
  ⟨s.len, fun i d e => let ⟨v, e', r⟩ := s.ok i d e; ⟨v, e', r.mon p⟩⟩
theorem Rep.stp (p : Stp F β H F' β' H') (t : T) (v : V) (h : Rep K F H t v) : Rep K F' H' t v := Rep.mon p.mon t v h
theorem RepL.stp (p : Stp F β H F' β' H') (l : List T) (xs : List V) (h : RepL K F H l xs) : RepL K F' H' l xs := RepL.mon p.mon l xs h
theorem RepD.stp (p : Stp F β H F' β' H') {d : D} {v : V} (h : RepD K F β H d v) : RepD K F' β' H' d v := h.mon p.mon
theorem RepDs.stp (p : Stp F β H F' β' H') {l : List D} {xs : List V} (h : RepDs K F β H l xs) : RepDs K F' β' H' l xs := h.mon p.mon
theorem Slo.stp (p : Stp F β H F' β' H') (s : Slo K F β H ρ σ) : Slo K F' β' H' ρ σ := s.mon p.mon
theorem RepL.length : ∀ {l : List T} {xs : List V}, RepL K F H l xs → xs.length = l.length
  | [], xs, h => by unfold RepL at h; subst h; rfl
  | t :: l, xs, h => by
    unfold RepL at h
    obtain ⟨x, r, e, _, q⟩ := h
    subst e
    simp [RepL.length q]
theorem RepL.get : ∀ {l : List T} {xs : List V}, RepL K F H l xs → ∀ {i : Nat} {t : T}, l[i]? = some t → ∃ x, xs[i]? = some x ∧ Rep K F H t x
  | [], xs, h, i, t, e => by simp at e
  | t0 :: l, xs, h, i, t, e => by
    unfold RepL at h
    obtain ⟨x, r, e', q1, q⟩ := h
    subst e'
    cases i with
    | zero => simp at e; subst e; exact ⟨x, rfl, q1⟩
    | succ i => simpa using RepL.get q (by simpa using e)
theorem RepL.get' : ∀ {l : List T} {xs : List V}, RepL K F H l xs → ∀ {i : Nat} {x : V}, xs[i]? = some x → ∃ t, l[i]? = some t ∧ Rep K F H t x
  | [], xs, h, i, x, e => by unfold RepL at h; subst h; simp at e
  | t0 :: l, xs, h, i, x, e => by
    unfold RepL at h
    obtain ⟨y, r, e', q1, q⟩ := h
    subst e'
    cases i with
    | zero => simp at e; subst e; exact ⟨t0, rfl, q1⟩
    | succ i => simpa using RepL.get' q (by simpa using e)
theorem RepL.nil : RepL K F H [] [] := by unfold RepL; rfl
theorem RepL.cons {t : T} {l : List T} {x : V} {xs : List V} (h : Rep K F H t x) (q : RepL K F H l xs) : RepL K F H (t :: l) (x :: xs) := by
  unfold RepL; exact ⟨x, xs, rfl, h, q⟩
theorem RepL.append : ∀ {l : List T} {xs : List V}, RepL K F H l xs → ∀ {l' : List T} {ys : List V}, RepL K F H l' ys → RepL K F H (l ++ l') (xs ++ ys)
  | [], xs, h, l', ys, h' => by unfold RepL at h; subst h; exact h'
  | t :: l, xs, h, l', ys, h' => by
    unfold RepL at h
    obtain ⟨x, r, e, q1, q⟩ := h
    subst e
    exact .cons q1 (RepL.append q h')
theorem RepL.take : ∀ {l : List T} {xs : List V} (n : Nat), RepL K F H l xs → RepL K F H (l.take n) (xs.take n)
  | [], xs, n, h => by unfold RepL at h; subst h; simp; exact .nil
  | t :: l, xs, 0, h => by simp; exact .nil
  | t :: l, xs, n + 1, h => by
    unfold RepL at h
    obtain ⟨x, r, e, q1, q⟩ := h
    subst e
    exact .cons q1 (RepL.take n q)
theorem RepL.drop : ∀ {l : List T} {xs : List V} (n : Nat), RepL K F H l xs → RepL K F H (l.drop n) (xs.drop n)
  | [], xs, n, h => by unfold RepL at h; subst h; simp; exact .nil
  | t :: l, xs, 0, h => h
  | t :: l, xs, n + 1, h => by
    unfold RepL at h
    obtain ⟨x, r, e, q1, q⟩ := h
    subst e
    exact RepL.drop n q
theorem RepDs.length : ∀ {l : List D} {xs : List V}, RepDs K F β H l xs → xs.length = l.length
  | [], xs, h => by cases h; rfl
  | d :: l, xs, ⟨x, r, e, _, q⟩ => by subst e; simp [RepDs.length q]
theorem RepDs.get : ∀ {l : List D} {xs : List V}, RepDs K F β H l xs → ∀ {i : Nat} {t : D}, l[i]? = some t → ∃ x, xs[i]? = some x ∧ RepD K F β H t x
  | [], xs, h, i, t, e => by simp at e
  | t0 :: l, xs, ⟨x, r, e', q1, q⟩, i, t, e => by
    subst e'
    cases i with
    | zero => simp at e; subst e; exact ⟨x, rfl, q1⟩
    | succ i => simpa using RepDs.get q (by simpa using e)
theorem RepDs.append : ∀ {l : List D} {xs : List V}, RepDs K F β H l xs → ∀ {l' : List D} {ys : List V}, RepDs K F β H l' ys → RepDs K F β H (l ++ l') (xs ++ ys)
  | [], xs, h, l', ys, h' => by cases h; exact h'
  | t :: l, xs, ⟨x, r, e, q1, q⟩, l', ys, h' => by subst e; exact ⟨x, _, rfl, q1, RepDs.append q h'⟩
theorem RepDs.ofL : ∀ {l : List T} {xs : List V}, RepL K F H l xs → RepDs K F β H (l.map D.t) xs
  | [], xs, h => by unfold RepL at h; exact h
  | t :: l, xs, h => by
    unfold RepL at h
    obtain ⟨x, r, e, q1, q⟩ := h
    exact ⟨x, r, e, q1, RepDs.ofL q⟩
theorem RepDs.toL : ∀ {l : List T} {xs : List V}, RepDs K F β H (l.map D.t) xs → RepL K F H l xs
  | [], xs, h => by cases h; exact .nil
  | t :: l, xs, ⟨x, r, e, q1, q⟩ => by subst e; exact .cons q1 (RepDs.toL q)
end
end Zy
set_option Elab.async false
set_option linter.all false
set_option maxRecDepth 100000
set_option maxHeartbeats 2000000
/-! Z1: steps of the store; readings over trees; expressions, arguments, tests. -/
namespace Zy
open PySem PySem.Spec PyProof.Rows L2

/-- only new things -/
structure Gro (F : Fz) (H : Hp) (F' : Fz) (H' : Hp) : Prop where
  same : ∀ a o, H a = some o → H' a = some o
  f : ∀ a, F a → F' a
  g : ∀ a, F' a → F a ∨ H a = none
  tr : ∀ a, F' a → H' a ≠ none
  tz : ∀ a, F a → H a ≠ none
section
variable {K : PySem.W.Frag} {F F' F2 : Fz} {β β' β2 : List Addr} {H H' H2 : Hp} {μ μ' : Mu} {ρ : En} {σ : L2.St}
theorem some_ne {α : Type} {x : Option α} {y : α} (h : x = some y) : x ≠ none := by rw [h]; exact fun z => nomatch z
theorem ne_some {α : Type} {x : Option α} (h : x ≠ none) : ∃ y, x = some y := by
  cases x with
  | none => exact absurd rfl h
  | some y => exact ⟨y, rfl⟩
theorem Gro.refl (h : ∀ a, F a → H a ≠ none) : Gro F H F H := ⟨fun _ _ h => h, fun _ h => h, fun _ h => .inl h, h, h⟩
theorem Gro.trans (p : Gro F H F' H') (q : Gro F' H' F2 H2) : Gro F H F2 H2 :=
  ⟨fun a o h => q.same a o (p.same a o h), fun a h => q.f a (p.f a h), (fun a h => by
    rcases q.g a h with z | z
    · exact p.g a z
    · refine .inr ?_
      cases e : H a with
      | none => rfl
      | some o => rw [p.same a o e] at z; exact nomatch z), q.tr, p.tz⟩
theorem Gro.rd (p : Gro F H F' H') {a : Addr} {u : HO} (h : Rd H a u) : Rd H' a u := by
  rcases h with h | ⟨o, h⟩
  · exact .inl (p.same a _ h)
  · exact .inr ⟨o, p.same a _ h⟩
theorem Gro.s (p : Gro F H F' H') (a : Addr) (h : H a ≠ none) : H' a ≠ none := let ⟨_, e⟩ := ne_some h; some_ne (p.same a _ e)
theorem Gro.eq (p : Gro F H F' H') {a : Addr} (f : F a) : H' a = H a := by
  obtain ⟨o, e⟩ := ne_some (p.tz a f)
  rw [e, p.same a o e]
theorem Gro.stp (p : Gro F H F' H') : Stp F β H F' β H' :=
  ⟨p.f, fun a f => p.eq f, fun a xs h => p.same a _ h, List.prefix_refl _, fun a o h _ _ => p.same a o h, fun _ h => .inl h, fun a h => (p.g a h).elim .inl fun z => .inr (.inr z), p.s⟩
/-- a thing of the store that is as it was -/
theorem MOk.stp (p : Stp F β H F' β' H') {a : Addr} (ha : ∀ o, H a = some o → H' a = some o) (nf : ¬ F a → ¬ F' a) {m : MO} (h : MOk K F β H a m) : MOk K F' β' H' a m := by
  match m, h with
  | .lst ds, h => obtain ⟨n, xs, e, r⟩ := h; exact ⟨nf n, xs, ha _ e, r.stp p⟩
  | .tup ds, h => obtain ⟨xs, e, r⟩ := h; exact ⟨xs, ha _ e, r.stp p⟩
  | .dk ks ds, h => obtain ⟨n, xs, e, z, r⟩ := h; exact ⟨nf n, xs, ha _ e, z, r.stp p⟩
  | .dt ks ds, h => obtain ⟨n, xs, e, z, r⟩ := h; exact ⟨nf n, xs, ha _ e, z, r.stp p⟩
  | .ins C ns ds, h => obtain ⟨n, dx, xs, e, z, r⟩ := h; exact ⟨nf n, dx, xs, ha _ e, z, r.stp p⟩
  | .dead, h => trivial
theorem Sto.gro (s : Sto K F β H μ) (p : Gro F H F' H') : Sto K F' β H' μ :=
  ⟨s.len, s.nd, fun i a m e1 e2 => (s.ok i a m e1 e2).stp p.stp (fun o e => p.same a o e) fun n z => (p.g a z).elim n fun y => s.btr a (List.mem_of_getElem? e1) y, p.tr, fun a h => p.s a (s.btr a h)⟩
/-- a new thing that is frozen at once -/
theorem Gro.new (h : ∀ a, F a → H a ≠ none) {p : Addr} {o : HO} (hp : H p = none) : Gro F H (fun a => F a ∨ a = p) (upd H p o) :=
  ⟨fun a u e => by rw [upd_ne (ne_of_none e hp)]; exact e, fun _ => .inl, fun a z => z.elim .inl fun e => .inr (by rw [e]; exact hp), fun a z => by
    by_cases e : a = p
    · rw [e, upd_same]; exact fun y => nomatch y
    · rw [upd_ne e]; exact z.elim (h a) fun y => absurd y e, h⟩
/-- .. or can't be changed -/
theorem Gro.newT (h : ∀ a, F a → H a ≠ none) {p : Addr} {o : HO} (hp : H p = none) : Gro F H F (upd H p o) :=
  ⟨fun a u e => by rw [upd_ne (ne_of_none e hp)]; exact e, fun _ z => z, fun _ => .inl, fun a z => by rw [upd_ne fun e => h a z (by rw [e]; exact hp)]; exact h a z, h⟩

/-- a new thing of the store -/
theorem Sto.alloc_stp (s : Sto K F β H μ) {p : Addr} {o : HO} (hp : H p = none) : Stp F β H F (β ++ [p]) (upd H p o) :=
  ⟨fun _ h => h, fun a f => (Gro.newT s.ftr hp).eq f, fun a xs h => (Gro.newT s.ftr hp).same a _ h, List.prefix_append _ _, fun a o h _ _ => (Gro.newT s.ftr hp).same a o h,
    fun a h => (List.mem_append.mp h).elim .inl fun z => .inr (by rw [List.mem_singleton.mp z]; exact hp), fun _ => .inl, fun a h => (Gro.newT s.ftr hp).s a h⟩
theorem Sto.alloc (s : Sto K F β H μ) {p : Addr} {o : HO} {m : MO} (hp : H p = none) (hm : MOk K F (β ++ [p]) (upd H p o) p m) : Sto K F (β ++ [p]) (upd H p o) (μ ++ [m]) := by
  have st := s.alloc_stp (o := o) hp
  have nm : p ∉ β := fun z => s.btr p z hp
  refine ⟨by simp [s.len], ?_, fun i a m' e1 e2 => ?_, (Gro.newT s.ftr hp).tr, fun a h => ?_⟩
  · exact List.nodup_append.mpr ⟨s.nd, by simp, fun a ha b hb e => nm (by rw [List.mem_singleton.mp hb] at e; rw [← e]; exact ha)⟩
  · by_cases hi : i < β.length
    · rw [List.getElem?_append_left hi] at e1
      rw [List.getElem?_append_left (by rw [← s.len]; exact hi)] at e2
      exact (s.ok i a m' e1 e2).stp st (fun o e => (Gro.newT s.ftr hp).same a o e) fun n => n
    · have e : i = β.length := by
        have := (List.getElem?_eq_some_iff.mp e1).1
        simp at this; omega
      subst e
      rw [List.getElem?_append_right (Nat.le_refl _)] at e1
      rw [List.getElem?_append_right (by rw [s.len]; exact Nat.le_refl _)] at e2
      simp at e1
      rw [show β.length - μ.length = 0 by rw [s.len]; omega] at e2
      simp at e2
      subst e1 e2
      exact hm
  · rcases List.mem_append.mp h with z | z
    · exact st.s a (s.btr a z)
    · rw [List.mem_singleton.mp z, upd_same]; exact fun y => nomatch y
/-- a thing of the store is changed -/
theorem Sto.write_stp (s : Sto K F β H μ) {i : Nat} {a : Addr} {o : HO} (hi : β[i]? = some a) (nf : ¬ F a) (nt : ∀ xs, H a ≠ some (.tup xs)) : Stp F β H F β (upd H a o) :=
  ⟨fun _ h => h, fun b f => upd_ne fun e => nf (by rw [← e]; exact f),
    fun b xs h => by rw [upd_ne fun e => nt xs (by rw [← e]; exact h)]; exact h, List.prefix_refl _,
    fun b u h nb _ => by rw [upd_ne fun e => nb (by rw [e]; exact List.mem_of_getElem? hi)]; exact h, fun _ => .inl, fun _ => .inl, fun b h => by
      by_cases e : b = a
      · rw [e, upd_same]; exact fun y => nomatch y
      · rw [upd_ne e]; exact h⟩
theorem Sto.write (s : Sto K F β H μ) {i : Nat} {a : Addr} {o : HO} {m : MO} (hi : β[i]? = some a) (nf : ¬ F a) (nt : ∀ xs, H a ≠ some (.tup xs)) (hm : MOk K F β (upd H a o) a m) : Sto K F β (upd H a o) (μ.set i m) := by
  have st := s.write_stp (o := o) hi nf nt
  refine ⟨by simp [s.len], s.nd, fun j b m' e1 e2 => ?_, fun b h => ?_, fun b h => st.s b (s.btr b h)⟩
  · by_cases hj : j = i
    · subst hj
      rw [hi] at e1
      cases e1
      rw [List.getElem?_set_self (by rw [← s.len]; exact (List.getElem?_eq_some_iff.mp hi).1)] at e2
      cases e2
      exact hm
    · rw [List.getElem?_set_ne (Ne.symm hj)] at e2
      have e : b ≠ a := fun e => hj (by
        have h1 := List.getElem?_eq_some_iff.mp e1
        have h2 := List.getElem?_eq_some_iff.mp hi
        obtain ⟨l1, q1⟩ := h1
        obtain ⟨l2, q2⟩ := h2
        exact (List.getElem_inj s.nd).mp (q1.trans (e.trans q2.symm)))
      exact (s.ok j b m' e1 e2).stp st (fun u h => by rw [upd_ne e]; exact h) fun n => n
  · exact st.s b (s.ftr b h)
/-- a list of the store, a dict, an instance is frozen: from now on it is a tree -/
theorem Sto.freeze (s : Sto K F β H μ) {i : Nat} {a : Addr} (hi : β[i]? = some a) : Sto K (fun b => F b ∨ b = a) β H (μ.set i .dead) ∧ Stp F β H (fun b => F b ∨ b = a) β H := by
  have st : Stp F β H (fun b => F b ∨ b = a) β H :=
    ⟨fun _ => .inl, fun _ _ => rfl, fun _ _ h => h, List.prefix_refl _, fun _ _ h _ _ => h, fun _ => .inl, fun b z => z.elim .inl fun e => .inr (.inl (by rw [e]; exact List.mem_of_getElem? hi)), fun _ h => h⟩
  refine ⟨⟨by simp [s.len], s.nd, fun j b m' e1 e2 => ?_, fun b h => h.elim (s.ftr b) fun e => by rw [e]; exact s.btr a (List.mem_of_getElem? hi), s.btr⟩, st⟩
  by_cases hj : j = i
  · subst hj
    rw [List.getElem?_set_self (by rw [← s.len]; exact (List.getElem?_eq_some_iff.mp hi).1)] at e2
    cases e2
    trivial
  · rw [List.getElem?_set_ne (Ne.symm hj)] at e2
    have e : b ≠ a := fun e => hj (by
      obtain ⟨l1, q1⟩ := List.getElem?_eq_some_iff.mp e1
      obtain ⟨l2, q2⟩ := List.getElem?_eq_some_iff.mp hi
      exact (List.getElem_inj s.nd).mp (q1.trans (e.trans q2.symm)))
    exact (s.ok j b m' e1 e2).stp st (fun u h => h) fun n z => z.elim n e
end

/-! ### exceptions -/
/-- own: an error of the class at C with its fields -/
inductive Err where
  | own (C : Addr) (ns : List Str) (l : List T) | bi (n : String)
def ErrRep (K : PySem.W.Frag) (F : Fz) (H : Hp) : Err → Value → Option Addr → Prop
  | .own C ns l, c, d => c = .ref C ∧ ∃ dd xs, d = some dd ∧ F dd ∧ H dd = some (.xd (ns.zip xs)) ∧ ns.length = l.length ∧ RepL K F H l xs
  | .bi n, c, _ => c = .type n
abbrev EK := Err → Mu → Prop
abbrev WEx := En → Mu → (D → Mu → Prop) → EK → Prop
abbrev WTs := En → Mu → (Bool → Mu → Prop) → EK → Prop
abbrev WAr := En → Mu → (List D → Mu → Prop) → EK → Prop
structure Ez where
  nx : En → Mu → Prop
  rt : D → Mu → Prop
  bk : En → Mu → Prop
  ct : En → Mu → Prop
  er : Err → En → Mu → Prop
abbrev WSt := Ez → En → Mu → Prop

def EOk (K : PySem.W.Frag) (W : WX) (F : Fz) (β : List Addr) (H : Hp) (σ : L2.St) (Ed : EK) : Prop :=
  ∀ e μ', Ed e μ' → ∀ c d H' F' β', Stp F β H F' β' H' → Sto K F' β' H' μ' → ErrRep K F' H' e c d → W c d σ H'
theorem EOk.stp {K : PySem.W.Frag} {W : WX} {F F' : Fz} {β β' : List Addr} {H H' : Hp} {σ : L2.St} {Ed : EK} (p : Stp F β H F' β' H') (h : EOk K W F β H σ Ed) : EOk K W F' β' H' σ Ed :=
  fun e μ' q c d H2 F2 β2 st s r => h e μ' q c d H2 F2 β2 (p.trans st) s r
def QOk (K : PySem.W.Frag) (F : Fz) (β : List Addr) (H : Hp) (Qd : D → Mu → Prop) (Q : VK) : Prop :=
  ∀ d μ', Qd d μ' → ∀ v H' F' β', Stp F β H F' β' H' → Sto K F' β' H' μ' → RepD K F' β' H' d v → Q v H'
theorem QOk.stp {K : PySem.W.Frag} {F F' : Fz} {β β' : List Addr} {H H' : Hp} {Qd : D → Mu → Prop} {Q : VK} (p : Stp F β H F' β' H') (h : QOk K F β H Qd Q) : QOk K F' β' H' Qd Q :=
  fun d μ' q v H2 F2 β2 st s r => h d μ' q v H2 F2 β2 (p.trans st) s r

/-- an expression's reading by trees -/
def tE (K : PySem.W.Frag) (W : WX) (w : WEx) : TE := fun σ H Q => ∃ F β ρ μ Qd Ed, Sto K F β H μ ∧ Slo K F β H ρ σ ∧ QOk K F β H Qd Q ∧ EOk K W F β H σ Ed ∧ w ρ μ Qd Ed
def tT (K : PySem.W.Frag) (W : WX) (w : WTs) : TT := fun σ H Q => ∃ F β ρ μ Qd Ed, Sto K F β H μ ∧ Slo K F β H ρ σ ∧
  (∀ b μ', Qd b μ' → ∀ H' F' β', Stp F β H F' β' H' → Sto K F' β' H' μ' → Q b H') ∧ EOk K W F β H σ Ed ∧ w ρ μ Qd Ed
def tAr (K : PySem.W.Frag) (W : WX) (w : WAr) : TA := fun σ H Q => ∃ F β ρ μ Qd Ed, Sto K F β H μ ∧ Slo K F β H ρ σ ∧
  (∀ ds μ', Qd ds μ' → ∀ vs H' F' β', Stp F β H F' β' H' → Sto K F' β' H' μ' → RepDs K F' β' H' ds vs → Q vs H') ∧ EOk K W F β H σ Ed ∧ w ρ μ Qd Ed

structure ZE (X : Cx) (W : WX) (e : Expr) (w : WEx) : Prop where
  pe : PE X e (tE X.K W w)
structure ZT (X : Cx) (W : WX) (e : Expr) (w : WTs) : Prop where
  pt : PT X e (tT X.K W w)
structure ZA (X : Cx) (W : WX) (es : List Expr) (w : WAr) : Prop where
  pa : PA X es (tAr X.K W w)

section
variable {X : Cx} {W : WX} {e : Expr}
theorem PE.imp {t t' : TE} (h : PE X e t) (f : ∀ σ H Q, t' σ H Q → t σ H Q) : PE X e t' := ⟨fun pins s σ H Q I q => h.run pins s σ H Q I (f _ _ _ q)⟩
theorem PT.imp {t t' : TT} (h : PT X e t) (f : ∀ σ H Q, t' σ H Q → t σ H Q) : PT X e t' := ⟨fun pins s σ H Q I q => h.run pins s σ H Q I (f _ _ _ q)⟩
theorem PA.imp {es : List Expr} {t t' : TA} (h : PA X es t) (f : ∀ σ H Q, t' σ H Q → t σ H Q) : PA X es t' := ⟨fun pos pins s σ H Q I q => h.run pos pins s σ H Q I (f _ _ _ q)⟩

/-! ### names, constants -/
def wVar (i : Nat) : WEx := fun ρ μ Q _ => ∃ d, ρ[i]? = some (some d) ∧ Q d μ
theorem ze_var (i : Nat) {x : Str} {pos : Pos} (hN : X.N[i]? = some x := by rfl) (hv : Vis X.env.scope x := by first | exact Or.inl rfl | exact Or.inr (Or.inl rfl) | exact Or.inr (Or.inr rfl)) (hd : (x == ("__debug__" : Str)) = false := by decide)
    (hcd : (x == ("__classdict__" : Str)) = false := by decide) : ZE X W (.Name x pos) (wVar i) :=
  ⟨PE.imp (pe_var hN hv hd hcd) fun σ H Q ⟨F, β, ρ, μ, Qd, Ed, s, l, q, _, d, e, w⟩ => by
    obtain ⟨v, e', r⟩ := l.ok i d e
    exact ⟨v, e', q d μ w v H F β .refl s r⟩⟩
def wC (t : T) : WEx := fun _ μ Q _ => Q (.t t) μ
theorem ze_const {v : V} {t : T} (h : PE X e (tC v)) (r : ∀ F H, Rep X.K F H t v) : ZE X W e (wC t) :=
  ⟨PE.imp h fun σ H Q ⟨F, β, ρ, μ, Qd, Ed, s, l, q, _, w⟩ => q _ μ w v H F β .refl s (r F H)⟩
theorem rep_int {K : PySem.W.Frag} {F : Fz} {H : Hp} {i : Int} : Rep K F H (.int i) (.int i) := by unfold Rep; rfl
theorem rep_bl {K : PySem.W.Frag} {F : Fz} {H : Hp} {b : Bool} : Rep K F H (.bl b) (.bl b) := by unfold Rep; rfl
theorem rep_str {K : PySem.W.Frag} {F : Fz} {H : Hp} {x : Str} : Rep K F H (.str x) (.str x) := by unfold Rep; rfl
theorem rep_non {K : PySem.W.Frag} {F : Fz} {H : Hp} : Rep K F H .non .non := by unfold Rep; rfl
theorem rep_ob {K : PySem.W.Frag} {F : Fz} {H : Hp} {a : Addr} : Rep K F H (.ob a) (.ref a) := by unfold Rep; rfl
theorem rep_ty {K : PySem.W.Frag} {F : Fz} {H : Hp} {n : String} : Rep K F H (.ty n) (.ty n) := by unfold Rep; rfl
theorem ze_int {i j pos} : ZE X W (.Constant (.int i) j pos) (wC (.int i)) := ze_const pe_int fun _ _ => rep_int
theorem ze_bl {b j pos} : ZE X W (.Constant (.bool b) j pos) (wC (.bl b)) := ze_const pe_bl fun _ _ => rep_bl
theorem ze_non {j pos} : ZE X W (.Constant .none j pos) (wC .non) := ze_const pe_non fun _ _ => rep_non
theorem ze_str {x j pos} : ZE X W (.Constant (.str x) j pos) (wC (.str x)) := ze_const pe_str fun _ _ => rep_str
theorem ze_glob {x : Str} {a : Addr} {pos : Pos} (hm : X.mg x = some (.ref a)) (hg : Gl X x := by rfl) (hd : (x == ("__debug__" : Str)) = false := by decide) : ZE X W (.Name x pos) (wC (.ob a)) :=
  ze_const (pe_glob (v := .ref a) hg hm rfl hd) fun _ _ => rep_ob
theorem ze_globv {x : Str} {u : Value} {v : V} {t : T} {pos : Pos} (hm : X.mg x = some u) (r : RelV v u) (hr : ∀ F H, Rep X.K F H t v) (hg : Gl X x := by rfl) (hd : (x == ("__debug__" : Str)) = false := by decide) : ZE X W (.Name x pos) (wC t) :=
  ze_const (pe_glob hg hm r hd) hr
theorem ze_bltn {x : Str} {v : V} {t : T} {u : Value} {pos : Pos} (hm : X.mg x = none) (hv : bootBuiltins x = some u) (r : RelV v u) (hr : ∀ F H, Rep X.K F H t v) (hg : Gl X x := by rfl) (hn : x ≠ "__name__" := by decide) (hd : (x == ("__debug__" : Str)) = false := by decide) : ZE X W (.Name x pos) (wC t) :=
  ze_const (pe_bltn hg hm hv r hn hd) hr

/-! ### what a thing is just now -/
def unT : List D → Option (List T)
  | [] => some []
  | .t x :: r => (unT r).map (x :: ·)
  | .r _ :: _ => none
def vwM : MO → Option T
  | .lst ds => (unT ds).map .lst
  | .tup ds => (unT ds).map .tup
  | .dk ks ds => (unT ds).map (.dk ks)
  | .dt ks ds => (unT ds).map (.dt ks)
  | .ins C ns ds => (unT ds).map (.ins C ns)
  | .dead => none
def vw (μ : Mu) : D → Option T
  | .t x => some x
  | .r i => (μ[i]?).bind vwM
def vws (μ : Mu) : List D → Option (List T)
  | [] => some []
  | d :: r => (vw μ d).bind fun t => (vws μ r).map (t :: ·)
/-- v stands for the tree just now; its top may be changed later -/
def Now (K : PySem.W.Frag) (F : Fz) (H : Hp) : T → V → Prop
  | .lst l, v => ∃ a xs, v = .ref a ∧ H a = some (.lst xs) ∧ RepL K F H l xs
  | .scr l, v => ∃ a xs, v = .ref a ∧ SqL K H a xs ∧ RepL K F H l xs
  | .dk ks l, v => ∃ a xs, v = .ref a ∧ H a = some (.dK (ks.zip xs)) ∧ ks.length = l.length ∧ RepL K F H l xs
  | .dt ks l, v => ∃ a xs, v = .ref a ∧ H a = some (.dT (ks.zip xs)) ∧ ks.length = l.length ∧ RepL K F H l xs
  | .ins C ns l, v => ∃ a dx xs, v = .ref a ∧ H a = some (.ins C dx (ns.zip xs)) ∧ ns.length = l.length ∧ RepL K F H l xs
  | .tup l, v => ∃ a xs, v = .ref a ∧ RdT K H a xs ∧ RepL K F H l xs
  | t, v => Rep K F H t v
theorem Rep.now {K : PySem.W.Frag} {F : Fz} {H : Hp} {t : T} {v : V} (h : Rep K F H t v) : Now K F H t v := by
  cases t with
  | lst l => unfold Rep at h; obtain ⟨_, a, xs, e, _, r, q⟩ := h; exact ⟨a, xs, e, r, q⟩
  | scr l => unfold Rep at h; obtain ⟨_, a, xs, e, r, q⟩ := h; exact ⟨a, xs, e, r.sq, q⟩
  | tup l => unfold Rep at h; obtain ⟨_, a, xs, e, r, q⟩ := h; exact ⟨a, xs, e, r, q⟩
  | dk ks l => unfold Rep at h; obtain ⟨a, xs, e, _, r, z, q⟩ := h; exact ⟨a, xs, e, r, z, q⟩
  | dt ks l => unfold Rep at h; obtain ⟨a, xs, e, _, r, z, q⟩ := h; exact ⟨a, xs, e, r, z, q⟩
  | ins C ns l => unfold Rep at h; obtain ⟨a, dx, xs, e, _, r, z, q⟩ := h; exact ⟨a, dx, xs, e, r, z, q⟩
  | _ => exact h
theorem map_some {α β : Type} {o : Option α} {f : α → β} {t : β} (h : o.map f = some t) : ∃ l, o = some l ∧ f l = t := by
  cases o with
  | none => cases h
  | some l => exact ⟨l, rfl, Option.some.inj h⟩
theorem unT_map : ∀ {ds : List D} {l : List T}, unT ds = some l → ds = l.map .t
  | [], l, h => by cases h; rfl
  | .t x :: r, l, h => by
    unfold unT at h
    cases e : unT r with
    | none => rw [e] at h; cases h
    | some l' => rw [e] at h; cases h; rw [unT_map e]; rfl
theorem unT_of : ∀ (l : List T), unT (l.map .t) = some l
  | [] => rfl
  | x :: l => by show (unT (l.map .t)).map (x :: ·) = _; rw [unT_of l]; rfl
variable {K : PySem.W.Frag} {F : Fz} {β : List Addr} {H : Hp} {μ : Mu}
theorem vw_now (s : Sto K F β H μ) {d : D} {v : V} {t : T} (r : RepD K F β H d v) (h : vw μ d = some t) : Now K F H t v := by
  cases d with
  | t x => cases h; exact Rep.now r
  | r i =>
    obtain ⟨a, e, rfl⟩ := r
    have h : (μ[i]?).bind vwM = some t := h
    cases em : μ[i]? with
    | none => rw [em] at h; cases h
    | some m =>
      rw [em] at h
      have ok := s.ok i a m e em
      have h' : vwM m = some t := h
      match m, ok, h' with
      | .lst ds, ok, h' =>
        obtain ⟨l, eu, rfl⟩ := map_some (show (unT ds).map T.lst = some t from h')
        obtain ⟨_, xs, e1, q⟩ := ok
        rw [unT_map eu] at q
        exact ⟨a, xs, rfl, e1, q.toL⟩
      | .tup ds, ok, h' =>
        obtain ⟨l, eu, rfl⟩ := map_some (show (unT ds).map T.tup = some t from h')
        obtain ⟨xs, e1, q⟩ := ok
        rw [unT_map eu] at q
        exact ⟨a, xs, rfl, .inl e1, q.toL⟩
      | .dk ks ds, ok, h' =>
        obtain ⟨l, eu, rfl⟩ := map_some (show (unT ds).map (T.dk ks) = some t from h')
        obtain ⟨_, xs, e1, z, q⟩ := ok
        rw [unT_map eu] at q z
        exact ⟨a, xs, rfl, e1, by simpa using z, q.toL⟩
      | .dt ks ds, ok, h' =>
        obtain ⟨l, eu, rfl⟩ := map_some (show (unT ds).map (T.dt ks) = some t from h')
        obtain ⟨_, xs, e1, z, q⟩ := ok
        rw [unT_map eu] at q z
        exact ⟨a, xs, rfl, e1, by simpa using z, q.toL⟩
      | .ins C ns ds, ok, h' =>
        obtain ⟨l, eu, rfl⟩ := map_some (show (unT ds).map (T.ins C ns) = some t from h')
        obtain ⟨_, dx, xs, e1, z, q⟩ := ok
        rw [unT_map eu] at q z
        exact ⟨a, dx, xs, rfl, e1, by simpa using z, q.toL⟩
      | .dead, ok, h' => exact nomatch (show (none : Option T) = some t from h')
/-- lists of these -/
def NowL (K : PySem.W.Frag) (F : Fz) (H : Hp) : List T → List V → Prop
  | [], xs => xs = []
  | t :: l, xs => ∃ x r, xs = x :: r ∧ Now K F H t x ∧ NowL K F H l r
theorem vws_now (s : Sto K F β H μ) : ∀ {ds : List D} {vs : List V} {ts : List T}, RepDs K F β H ds vs → vws μ ds = some ts → NowL K F H ts vs
  | [], vs, ts, r, h => by cases h; exact r
  | d :: ds, vs, ts, ⟨x, r, e, q1, q⟩, h => by
    subst e
    unfold vws at h
    cases e1 : vw μ d with
    | none => rw [e1] at h; cases h
    | some t =>
      rw [e1] at h
      cases e2 : vws μ ds with
      | none => rw [e2] at h; cases h
      | some l =>
        rw [e2] at h
        cases h
        exact ⟨x, r, rfl, vw_now s q1 e1, vws_now s q e2⟩

/-! ### operations on trees -/
/-- what an operation may hand on: a tree, and new things -/
def POk (K : PySem.W.Frag) (F : Fz) (H : Hp) (Qd : T → Prop) (Q : VK) : Prop := ∀ t, Qd t → ∀ v H' F', Gro F H F' H' → Rep K F' H' t v → Q v H'
abbrev F1 := T → (T → Prop) → Prop
abbrev F2' := T → T → (T → Prop) → Prop
abbrev FN := List T → (T → Prop) → Prop
def Z1 (K : PySem.W.Frag) (r : V → Hp → VK → Prop) (f : F1) : Prop := ∀ F H t v Q Qd, (∀ a, F a → H a ≠ none) → Now K F H t v → f t Qd → POk K F H Qd Q → r v H Q
def Z2 (K : PySem.W.Frag) (r : R2) (f : F2') : Prop := ∀ F H t u v w Q Qd, (∀ a, F a → H a ≠ none) → Now K F H t v → Now K F H u w → f t u Qd → POk K F H Qd Q → r v w H Q
def ZN (K : PySem.W.Frag) (r : List V → Hp → VK → Prop) (f : FN) : Prop := ∀ F H ts vs Q Qd, (∀ a, F a → H a ≠ none) → NowL K F H ts vs → f ts Qd → POk K F H Qd Q → r vs H Q
def wOp1 (f : F1) (wa : WEx) : WEx := fun ρ μ Q E => wa ρ μ (fun d μ1 => ∃ t, vw μ1 d = some t ∧ f t fun x => Q (.t x) μ1) E
def wOp2 (f : F2') (wa wb : WEx) : WEx := fun ρ μ Q E => wa ρ μ (fun d μ1 => wb ρ μ1 (fun d' μ2 => ∃ t t', vw μ2 d = some t ∧ vw μ2 d' = some t' ∧ f t t' fun x => Q (.t x) μ2) E) E
def wOpN (f : FN) (wa : WAr) : WEx := fun ρ μ Q E => wa ρ μ (fun ds μ1 => ∃ ts, vws μ1 ds = some ts ∧ f ts fun x => Q (.t x) μ1) E
theorem pok_of {β : List Addr} {Qd : D → Mu → Prop} {Q : VK} (s : Sto K F β H μ) (q : QOk K F β H Qd Q) : POk K F H (fun x => Qd (.t x) μ) Q :=
  fun t h v H' F' g r => q _ μ h v H' F' β g.stp (s.gro g) r
theorem op1_red {r : V → Hp → VK → Prop} {f : F1} {wa : WEx} (hz : Z1 X.K r f) : ∀ σ H Q, tE X.K W (wOp1 f wa) σ H Q → tUn r (tE X.K W wa) σ H Q :=
  fun σ H Q ⟨F, β, ρ, μ, Qd, Ed, s, l, q, e, w⟩ => ⟨F, β, ρ, μ, _, Ed, s, l, fun d μ1 ⟨t, h1, h2⟩ v H' F' β' st s' r' => hz F' H' t v Q _ s'.ftr (vw_now s' r' h1) h2 (pok_of s' (q.stp st)), e, w⟩
theorem op2_red {r : R2} {f : F2'} {wa wb : WEx} (hz : Z2 X.K r f) : ∀ σ H Q, tE X.K W (wOp2 f wa wb) σ H Q → tOp r (tE X.K W wa) (tE X.K W wb) σ H Q :=
  fun σ H Q ⟨F, β, ρ, μ, Qd, Ed, s, l, q, e, w⟩ => ⟨F, β, ρ, μ, _, Ed, s, l, fun d μ1 w1 v H1 F1 β1 st s1 r1 =>
    ⟨F1, β1, ρ, μ1, _, Ed, s1, l.stp st, fun d' μ2 ⟨t, t', h1, h2, h3⟩ v' H2 F2 β2 st2 s2 r2 =>
      hz F2 H2 t t' v v' Q _ s2.ftr (vw_now s2 (r1.stp st2) h1) (vw_now s2 r2 h2) h3 (pok_of s2 (q.stp (st.trans st2))), e.stp st, w1⟩, e, w⟩
theorem ze_un {op : UnaryOp} {a : Expr} {pos : Pos} {r : V → Hp → VK → Prop} {f : F1} {wa : WEx} (ho : UnR X (unaryOp op) r) (hz : Z1 X.K r f) (ha : ZE X W a wa) : ZE X W (.UnaryOp op a pos) (wOp1 f wa) :=
  ⟨PE.imp (pe_un ho ha.pe) (op1_red hz)⟩
theorem ze_op {op : Operator} {a b : Expr} {pos : Pos} {r : R2} {f : F2'} {wa wb : WEx} (ho : OpR X (binaryOp op) r) (hz : Z2 X.K r f) (ha : ZE X W a wa) (hb : ZE X W b wb) : ZE X W (.BinOp a op b pos) (wOp2 f wa wb) :=
  ⟨PE.imp (pe_op ho ha.pe hb.pe) (op2_red hz)⟩
theorem ze_cmp {op : CmpOp} {a b : Expr} {pos : Pos} {r : R2} {f : F2'} {wa wb : WEx} (ho : OpR X (compareOp op) r) (hz : Z2 X.K r f) (ha : ZE X W a wa) (hb : ZE X W b wb) (hm : behindInMarks op b = false) : ZE X W (.Compare a [op] [b] pos) (wOp2 f wa wb) :=
  ⟨PE.imp (pe_cmpR ho ha.pe hb.pe hm) (op2_red hz)⟩

/-! ### arguments -/
def wNil : WAr := fun _ μ Q _ => Q [] μ
def wCons (we : WEx) (wr : WAr) : WAr := fun ρ μ Q E => we ρ μ (fun d μ1 => wr ρ μ1 (fun ds μ2 => Q (d :: ds) μ2) E) E
theorem za_nil : ZA X W [] wNil := ⟨PA.imp pa_nil fun σ H Q ⟨F, β, ρ, μ, Qd, Ed, s, l, q, e, w⟩ => q [] μ w [] H F β .refl s rfl⟩
theorem za_cons {es : List Expr} {we : WEx} {wr : WAr} (he : ZE X W e we) (hr : ZA X W es wr) (hs : starEach (e :: es) X.env = (false, eval e X.env) :: starEach es X.env := by rfl) : ZA X W (e :: es) (wCons we wr) :=
  ⟨PA.imp (pa_cons he.pe hr.pa hs) fun σ H Q ⟨F, β, ρ, μ, Qd, Ed, s, l, q, e, w⟩ => ⟨F, β, ρ, μ, _, Ed, s, l, fun d μ1 w1 v H1 F1 β1 st s1 r1 =>
    ⟨F1, β1, ρ, μ1, _, Ed, s1, l.stp st, fun ds μ2 w2 vs H2 F2 β2 st2 s2 r2 => q (d :: ds) μ2 w2 (v :: vs) H2 F2 β2 (st.trans st2) s2 ⟨v, vs, rfl, r1.stp st2, r2⟩, e.stp st, w1⟩, e, w⟩⟩
end
end Zy
set_option Elab.async false
set_option linter.all false
set_option maxRecDepth 100000
set_option maxHeartbeats 2000000
/-! Z2: truth, and/or/not, displays, subscripts, calls of built-ins and of defs. -/
namespace Zy
open PySem PySem.Spec PyProof.Rows L2
section
variable {X : Cx} {W : WX} {e : Expr}
/-! ### truth -/
def truT : T → Option Bool
  | .non => some false
  | .bl b => some b
  | .int i => some (i != 0)
  | .str y => if y.length ≤ sizeLine then some ((y.length : Int) != 0) else none
  | .tup l => some !l.isEmpty
  | .lst l => some !l.isEmpty
  | .scr l => some !l.isEmpty
  | _ => none
theorem isEmpty_len {α β : Type} {l : List α} {m : List β} (h : l.length = m.length) : l.isEmpty = m.isEmpty := by
  cases l <;> cases m <;> first | rfl | cases h
theorem tru_now {K : PySem.W.Frag} {F : Fz} {H : Hp} {t : T} {v : V} {k : Bool} (h : Now K F H t v) (e : truT t = some k) : TruV K v H k := by
  cases t with
  | non => cases (show Rep K F H .non v from h |> (fun q => by unfold Now at q; exact q)) |> (fun q => by unfold Rep at q; exact q); cases e; rfl
  | bl b => have h' : Rep K F H (.bl b) v := h; unfold Rep at h'; subst h'; cases e; rfl
  | int i => have h' : Rep K F H (.int i) v := h; unfold Rep at h'; subst h'; cases e; rfl
  | str y =>
    have h' : Rep K F H (.str y) v := h; unfold Rep at h'; subst h'
    have e' : (if y.length ≤ sizeLine then some ((y.length : Int) != 0) else none) = some k := e
    by_cases hy : y.length ≤ sizeLine
    · rw [if_pos hy] at e'; cases e'; exact ⟨hy, rfl⟩
    · rw [if_neg hy] at e'; cases e'
  | tup l => obtain ⟨a, xs, rfl, r, q⟩ := h; cases e; exact .inr (.inl ⟨xs, r.sq, by rw [isEmpty_len q.length]⟩)
  | lst l => obtain ⟨a, xs, rfl, r, q⟩ := h; cases e; exact .inl ⟨xs, .of r, by rw [isEmpty_len q.length]⟩
  | scr l => obtain ⟨a, xs, rfl, r, q⟩ := h; cases e; exact .inl ⟨xs, r, by rw [isEmpty_len q.length]⟩
  | _ => cases e
def wTru (wa : WEx) : WTs := fun ρ μ Q E => wa ρ μ (fun d μ1 => ∃ t k, vw μ1 d = some t ∧ truT t = some k ∧ Q k μ1) E
theorem zt_tru {wa : WEx} (ha : ZE X W e wa) (he : ∀ whole, isTrue e X.env whole = (do let v ← whole; standAt e.pos; holding [v] (truthy v)) := by intro _; rfl) : ZT X W e (wTru wa) :=
  ⟨PT.imp (pt_truth ha.pe he) fun σ H Q ⟨F, β, ρ, μ, Qd, Ed, s, l, q, o, w⟩ => ⟨F, β, ρ, μ, _, Ed, s, l, fun d μ1 ⟨t, k, h1, h2, h3⟩ v H' F' β' st s' r' =>
    ⟨k, tru_now (vw_now s' r' h1) h2, q k μ1 h3 H' F' β' st s'⟩, o, w⟩⟩
/-- a bool as a test -/
def wTst (wa : WEx) : WTs := fun ρ μ Q E => wa ρ μ (fun d μ1 => ∃ k, d = .t (.bl k) ∧ Q k μ1) E
theorem tst_red {K : PySem.W.Frag} {wa : WEx} {σ : L2.St} {H : Hp} {Q : Bool → Hp → Prop} (h : tT K W (wTst wa) σ H Q) : tE K W wa σ H fun x H' => ∃ k, x = .bl k ∧ Q k H' := by
  obtain ⟨F, β, ρ, μ, Qd, Ed, s, l, q, o, w⟩ := h
  refine ⟨F, β, ρ, μ, _, Ed, s, l, fun d μ1 ⟨k, h1, h2⟩ v H' F' β' st s' r' => ?_, o, w⟩
  subst h1
  have r2 : Rep K F' H' (.bl k) v := r'
  unfold Rep at r2
  exact ⟨k, r2, q k μ1 h2 H' F' β' st s'⟩
theorem zt_cmp {op : CmpOp} {a b : Expr} {pos : Pos} {r : R2} {f : F2'} {wa wb : WEx} (ho : OpR X (compareOp op) r) (hz : Z2 X.K r f) (ha : ZE X W a wa) (hb : ZE X W b wb) (hm : behindInMarks op b = false) : ZT X W (.Compare a [op] [b] pos) (wTst (wOp2 f wa wb)) :=
  ⟨PT.imp (pt_cmpR ho ha.pe hb.pe hm) fun σ H Q h => op2_red hz _ _ _ (tst_red h)⟩
/-- any expression whose value is a bool -/
theorem zt_val {wa : WEx} (ha : ZE X W e wa) (he : ∀ whole, isTrue e X.env whole = (do let v ← whole; standAt e.pos; holding [v] (truthy v)) := by intro _; rfl) : ZT X W e (wTst wa) :=
  ⟨PT.imp (pt_val ha.pe he) fun σ H Q h => tst_red h⟩
structure ZW (X : Cx) (W : WX) (e : Expr) (w : WTs) : Prop where
  pw : PW X e (tT X.K W w)
theorem ZW.zt {w : WTs} (h : ZW X W e w) : ZT X W e w := ⟨h.pw.pt⟩
def wAnd (wa wb : WTs) : WTs := fun ρ μ Q E => wa ρ μ (fun c μ1 => if c = true then wb ρ μ1 Q E else Q false μ1) E
def wOr (wa wb : WTs) : WTs := fun ρ μ Q E => wa ρ μ (fun c μ1 => if c = true then Q true μ1 else wb ρ μ1 Q E) E
def wNot (wa : WTs) : WTs := fun ρ μ Q E => wa ρ μ (fun c μ1 => Q (!c) μ1) E
theorem PW.imp {t t' : TT} (h : PW X e t) (f : ∀ σ H Q, t' σ H Q → t σ H Q) : PW X e t' := ⟨fun wh pins s σ H Q I q => h.run wh pins s σ H Q I (f _ _ _ q)⟩
section
variable {a b : Expr} {rest : List Expr} {pos : Pos} {wa wb : WTs}
theorem zw_and1 (ha : ZT X W a wa) : ZW X W (.BoolOp .And [a] pos) wa := ⟨pw_and1 ha.pt⟩
theorem zw_or1 (ha : ZT X W a wa) : ZW X W (.BoolOp .Or [a] pos) wa := ⟨pw_or1 ha.pt⟩
theorem zw_and (ha : ZT X W a wa) (hb : ZW X W (.BoolOp .And (b :: rest) pos) wb) : ZW X W (.BoolOp .And (a :: b :: rest) pos) (wAnd wa wb) :=
  ⟨PW.imp (pw_and ha.pt hb.pw) fun σ H Q ⟨F, β, ρ, μ, Qd, Ed, s, l, q, o, w⟩ => ⟨F, β, ρ, μ, _, Ed, s, l, fun c μ1 w1 H' F' β' st s' => by
    cases c with
    | true => exact ⟨F', β', ρ, μ1, Qd, Ed, s', l.stp st, fun b' μ' h' H2 F2 β2 st2 s2 => q b' μ' h' H2 F2 β2 (st.trans st2) s2, o.stp st, w1⟩
    | false => exact q false μ1 w1 H' F' β' st s', o, w⟩⟩
theorem zw_or (ha : ZT X W a wa) (hb : ZW X W (.BoolOp .Or (b :: rest) pos) wb) : ZW X W (.BoolOp .Or (a :: b :: rest) pos) (wOr wa wb) :=
  ⟨PW.imp (pw_or ha.pt hb.pw) fun σ H Q ⟨F, β, ρ, μ, Qd, Ed, s, l, q, o, w⟩ => ⟨F, β, ρ, μ, _, Ed, s, l, fun c μ1 w1 H' F' β' st s' => by
    cases c with
    | false => exact ⟨F', β', ρ, μ1, Qd, Ed, s', l.stp st, fun b' μ' h' H2 F2 β2 st2 s2 => q b' μ' h' H2 F2 β2 (st.trans st2) s2, o.stp st, w1⟩
    | true => exact q true μ1 w1 H' F' β' st s', o, w⟩⟩
theorem zt_not (ha : ZT X W a wa) : ZT X W (.UnaryOp .Not a pos) (wNot wa) :=
  ⟨PT.imp (pt_not ha.pt) fun σ H Q ⟨F, β, ρ, μ, Qd, Ed, s, l, q, o, w⟩ => ⟨F, β, ρ, μ, _, Ed, s, l, fun c μ1 w1 H' F' β' st s' => q _ μ1 w1 H' F' β' st s', o, w⟩⟩
end
/-! ### .. as values -/
section
variable {a b c : Expr} {rest : List Expr} {pos : Pos} {wa wb : WEx} {wc : WTs}
def wIf (wc : WTs) (wa wb : WEx) : WEx := fun ρ μ Q E => wc ρ μ (fun k μ1 => if k = true then wa ρ μ1 Q E else wb ρ μ1 Q E) E
theorem ze_ifExp (hc : ZT X W c wc) (ha : ZE X W a wa) (hb : ZE X W b wb) : ZE X W (.IfExp c a b pos) (wIf wc wa wb) :=
  ⟨PE.imp (pe_ifExp hc.pt ha.pe hb.pe) fun σ H Q ⟨F, β, ρ, μ, Qd, Ed, s, l, q, o, w⟩ => ⟨F, β, ρ, μ, _, Ed, s, l, fun k μ1 w1 H' F' β' st s' => by
    cases k with
    | true => exact ⟨F', β', ρ, μ1, Qd, Ed, s', l.stp st, q.stp st, o.stp st, w1⟩
    | false => exact ⟨F', β', ρ, μ1, Qd, Ed, s', l.stp st, q.stp st, o.stp st, w1⟩, o, w⟩⟩
def wAndV (wa wb : WEx) : WEx := fun ρ μ Q E => wa ρ μ (fun d μ1 => ∃ t k, vw μ1 d = some t ∧ truT t = some k ∧ if k = true then wb ρ μ1 Q E else Q d μ1) E
def wOrV (wa wb : WEx) : WEx := fun ρ μ Q E => wa ρ μ (fun d μ1 => ∃ t k, vw μ1 d = some t ∧ truT t = some k ∧ if k = true then Q d μ1 else wb ρ μ1 Q E) E
def wNotV (wa : WEx) : WEx := fun ρ μ Q E => wa ρ μ (fun d μ1 => ∃ t k, vw μ1 d = some t ∧ truT t = some k ∧ Q (.t (.bl !k)) μ1) E
theorem ze_one {op} {w : WEx} (h : ZE X W a w) : ZE X W (.BoolOp op [a] pos) w := ⟨pe_one h.pe⟩
theorem ze_and (ha : ZE X W a wa) (hb : ZE X W (.BoolOp .And (b :: rest) pos) wb) : ZE X W (.BoolOp .And (a :: b :: rest) pos) (wAndV wa wb) :=
  ⟨PE.imp (pe_andT ha.pe hb.pe) fun σ H Q ⟨F, β, ρ, μ, Qd, Ed, s, l, q, o, w⟩ => ⟨F, β, ρ, μ, _, Ed, s, l, fun d μ1 ⟨t, k, h1, h2, h3⟩ v H' F' β' st s' r' => ⟨k, tru_now (vw_now s' r' h1) h2, by
    cases k with
    | true => exact ⟨F', β', ρ, μ1, Qd, Ed, s', l.stp st, q.stp st, o.stp st, h3⟩
    | false => exact q d μ1 h3 v H' F' β' st s' r'⟩, o, w⟩⟩
theorem ze_or (ha : ZE X W a wa) (hb : ZE X W (.BoolOp .Or (b :: rest) pos) wb) : ZE X W (.BoolOp .Or (a :: b :: rest) pos) (wOrV wa wb) :=
  ⟨PE.imp (pe_orT ha.pe hb.pe) fun σ H Q ⟨F, β, ρ, μ, Qd, Ed, s, l, q, o, w⟩ => ⟨F, β, ρ, μ, _, Ed, s, l, fun d μ1 ⟨t, k, h1, h2, h3⟩ v H' F' β' st s' r' => ⟨k, tru_now (vw_now s' r' h1) h2, by
    cases k with
    | false => exact ⟨F', β', ρ, μ1, Qd, Ed, s', l.stp st, q.stp st, o.stp st, h3⟩
    | true => exact q d μ1 h3 v H' F' β' st s' r'⟩, o, w⟩⟩
theorem ze_not (ha : ZE X W a wa) : ZE X W (.UnaryOp .Not a pos) (wNotV wa) :=
  ⟨PE.imp (pe_notT ha.pe) fun σ H Q ⟨F, β, ρ, μ, Qd, Ed, s, l, q, o, w⟩ => ⟨F, β, ρ, μ, _, Ed, s, l, fun d μ1 ⟨t, k, h1, h2, h3⟩ v H' F' β' st s' r' => ⟨k, tru_now (vw_now s' r' h1) h2,
    q _ μ1 h3 (.bl !k) H' F' β' st s' (@rep_bl X.K F' H' !k)⟩, o, w⟩⟩
end
/-! ### displays -/
def wLst (wa : WAr) : WEx := fun ρ μ Q E => wa ρ μ (fun ds μ1 => ds.length ≤ sizeLine ∧ ((∃ ts, unT ds = some ts ∧ Q (.t (.lst ts)) μ1) ∨ Q (.r μ1.length) (μ1 ++ [.lst ds]))) E
def wTup (wa : WAr) : WEx := fun ρ μ Q E => wa ρ μ (fun ds μ1 => ds.length ≤ sizeLine ∧ ((∃ ts, unT ds = some ts ∧ Q (.t (.tup ts)) μ1) ∨ Q (.r μ1.length) (μ1 ++ [.tup ds]))) E
section
variable {es : List Expr} {pos : Pos} {wa : WAr}
theorem new_ref {K : PySem.W.Frag} {β : List Addr} {μ : Mu} {F : Fz} {H : Hp} (s : Sto K F β H μ) {p : Addr} {H' : Hp} : RepD K F (β ++ [p]) H' (.r μ.length) (.ref p) := ⟨p, by rw [← s.len]; simp, rfl⟩
theorem rep_lst {K : PySem.W.Frag} {F F' : Fz} {H H' : Hp} {ts : List T} {xs : List V} {p : Addr} (z : ts.length ≤ sizeLine) (f : F' p) (hp : H' p = some (.lst xs)) (g : Gro F H F' H') (q : RepL K F H ts xs) : Rep K F' H' (.lst ts) (.ref p) := by
  unfold Rep; exact ⟨z, p, xs, rfl, f, hp, RepL.stp (β := []) g.stp _ _ q⟩
theorem rep_tup {K : PySem.W.Frag} {F F' : Fz} {H H' : Hp} {ts : List T} {xs : List V} {p : Addr} (z : ts.length ≤ sizeLine) (hp : H' p = some (.tup xs)) (g : Gro F H F' H') (q : RepL K F H ts xs) : Rep K F' H' (.tup ts) (.ref p) := by
  unfold Rep; exact ⟨z, p, xs, rfl, .inl hp, RepL.stp (β := []) g.stp _ _ q⟩
theorem unT_len {ds : List D} {ts : List T} (h : unT ds = some ts) : ds.length = ts.length := by rw [unT_map h]; simp
theorem ze_lst (ha : ZA X W es wa) : ZE X W (.List es pos) (wLst wa) :=
  ⟨PE.imp (pe_lst ha.pa) fun σ H Q ⟨F, β, ρ, μ, Qd, Ed, s, l, q, o, w⟩ => ⟨F, β, ρ, μ, _, Ed, s, l, fun ds μ1 ⟨z, h⟩ vs H' F' β' st s' r' => ⟨by rw [r'.length]; exact z, fun p hp => by
    rcases h with ⟨ts, h1, h2⟩ | h
    · have e := unT_map h1
      subst e
      have g := Gro.new (o := .lst vs) s'.ftr hp
      exact q _ μ1 h2 _ _ _ β' (st.trans g.stp) (s'.gro g) (rep_lst (by simpa using z) (.inr rfl) upd_same g r'.toL)
    · have g := s'.alloc_stp (o := .lst vs) hp
      exact q _ _ h _ _ _ _ (st.trans g) (s'.alloc hp ⟨fun f => s'.ftr p f hp, vs, upd_same, r'.stp g⟩) (new_ref s')⟩, o, w⟩⟩
theorem ze_tup {x1} (ha : ZA X W es wa) : ZE X W (.Tuple es x1 pos) (wTup wa) :=
  ⟨PE.imp (pe_tup ha.pa) fun σ H Q ⟨F, β, ρ, μ, Qd, Ed, s, l, q, o, w⟩ => ⟨F, β, ρ, μ, _, Ed, s, l, fun ds μ1 ⟨z, h⟩ vs H' F' β' st s' r' => ⟨by rw [r'.length]; exact z, fun p hp => by
    rcases h with ⟨ts, h1, h2⟩ | h
    · have e := unT_map h1
      subst e
      have g := Gro.newT (o := .tup vs) s'.ftr hp
      exact q _ μ1 h2 _ _ _ β' (st.trans g.stp) (s'.gro g) (rep_tup (by simpa using z) upd_same g r'.toL)
    · have g := s'.alloc_stp (o := .tup vs) hp
      exact q _ _ h _ _ _ _ (st.trans g) (s'.alloc hp ⟨vs, upd_same, r'.stp g⟩) (new_ref s')⟩, o, w⟩⟩
end
/-! ### subscripts -/
section
variable {a b : Expr} {pos p2 : Pos} {wa wb : WEx}
theorem ze_ix {r : R2} {f : F2'} (hr : IxR X r) (hz : Z2 X.K r f) (ha : ZE X W a wa) (hb : ZE X W b wb) (hs : PlainIx b := by exact fun _ _ => rfl) : ZE X W (.Subscript a b pos) (wOp2 f wa wb) :=
  ⟨PE.imp (pe_ix hr ha.pe hb.pe hs) (op2_red hz)⟩
abbrev WO := En → Mu → (Option Int → Mu → Prop) → EK → Prop
def wNo : WO := fun _ μ Q _ => Q none μ
def wSo (we : WEx) : WO := fun ρ μ Q E => we ρ μ (fun d μ1 => ∃ i, d = .t (.int i) ∧ Q (some i) μ1) E
def tO (K : PySem.W.Frag) (W : WX) (w : WO) : TO := fun σ H Q => ∃ F β ρ μ Qd Ed, Sto K F β H μ ∧ Slo K F β H ρ σ ∧
  (∀ b μ', Qd b μ' → ∀ H' F' β', Stp F β H F' β' H' → Sto K F' β' H' μ' → Q b H') ∧ EOk K W F β H σ Ed ∧ w ρ μ Qd Ed
structure ZO (X : Cx) (W : WX) (e : Option Expr) (w : WO) : Prop where
  po : PO X e (tO X.K W w)
theorem PO.imp {e : Option Expr} {t t' : TO} (h : PO X e t) (f : ∀ σ H Q, t' σ H Q → t σ H Q) : PO X e t' := ⟨fun pins s σ H Q I q => h.run pins s σ H Q I (f _ _ _ q)⟩
theorem zo_none : ZO X W none wNo := ⟨PO.imp po_none fun σ H Q ⟨F, β, ρ, μ, Qd, Ed, s, l, q, o, w⟩ => q none μ w H F β .refl s⟩
theorem zo_some (h : ZE X W e wa) : ZO X W (some e) (wSo wa) :=
  ⟨PO.imp (po_some h.pe) fun σ H Q ⟨F, β, ρ, μ, Qd, Ed, s, l, q, o, w⟩ => ⟨F, β, ρ, μ, _, Ed, s, l, fun d μ1 ⟨i, h1, h2⟩ v H' F' β' st s' r' => by
    subst h1
    have r2 : Rep X.K F' H' (.int i) v := r'
    unfold Rep at r2
    exact ⟨i, r2, q _ μ1 h2 H' F' β' st s'⟩, o, w⟩⟩
abbrev FS := T → Option Int → Option Int → (T → Prop) → Prop
def ZS3 (K : PySem.W.Frag) (r : V → Option Int → Option Int → Hp → VK → Prop) (f : FS) : Prop := ∀ F H t v lo hi Q Qd, (∀ a, F a → H a ≠ none) → Now K F H t v → f t lo hi Qd → POk K F H Qd Q → r v lo hi H Q
def wSl (f : FS) (wa : WEx) (wl wh : WO) : WEx := fun ρ μ Q E => wa ρ μ (fun d μ1 => wl ρ μ1 (fun lo μ2 => wh ρ μ2 (fun hi μ3 => ∃ t, vw μ3 d = some t ∧ f t lo hi fun x => Q (.t x) μ3) E) E) E
theorem ze_slice {r : V → Option Int → Option Int → Hp → VK → Prop} {f : FS} {lo hi : Option Expr} {wl wh : WO} (hr : SlR X r) (hz : ZS3 X.K r f) (ha : ZE X W a wa) (hl : ZO X W lo wl) (hh : ZO X W hi wh) : ZE X W (.Subscript a (.Slice lo hi none p2) pos) (wSl f wa wl wh) :=
  ⟨PE.imp (pe_slice hr ha.pe hl.po hh.po) fun σ H Q ⟨F, β, ρ, μ, Qd, Ed, s, l, q, o, w⟩ => ⟨F, β, ρ, μ, _, Ed, s, l, fun d μ1 w1 v H1 F1 β1 st s1 r1 =>
    ⟨F1, β1, ρ, μ1, _, Ed, s1, l.stp st, fun lo μ2 w2 H2 F2 β2 st2 s2 =>
      ⟨F2, β2, ρ, μ2, _, Ed, s2, l.stp (st.trans st2), fun hi μ3 ⟨t, h1, h2⟩ H3 F3 β3 st3 s3 =>
        hz F3 H3 t v lo hi Q _ s3.ftr (vw_now s3 (r1.stp (st2.trans st3)) h1) h2 (pok_of s3 (q.stp (st.trans (st2.trans st3)))), o.stp (st.trans st2), w2⟩, o.stp st, w1⟩, o, w⟩⟩
end
/-! ### calls of built-ins -/
section
variable {x : Str} {p pos : Pos} {es : List Expr} {wa : WAr} {id T' : String} {r : List V → Hp → VK → Prop} {f : FN}
theorem opN_red (hz : ZN X.K r f) : ∀ σ H Q, tE X.K W (wOpN f wa) σ H Q → tCB r (tAr X.K W wa) σ H Q :=
  fun σ H Q ⟨F, β, ρ, μ, Qd, Ed, s, l, q, o, w⟩ => ⟨F, β, ρ, μ, _, Ed, s, l, fun ds μ1 ⟨ts, h1, h2⟩ vs H' F' β' st s' r' => hz F' H' ts vs Q _ s'.ftr (vws_now s' r' h1) h2 (pok_of s' (q.stp st)), o, w⟩
theorem ze_callB (hc : CallR X (.builtin id) r) (hz : ZN X.K r f) (hm : X.mg x = none) (hv : bootBuiltins x = some (.builtin id)) (ha : ZA X W (e :: es) wa) (hg : Gl X x := by rfl) (hn : x ≠ "__name__" := by decide) (hdb : (x == ("__debug__" : Str)) = false := by decide)
    (he : starEach (e :: es) X.env = (false, eval e X.env) :: starEach es X.env := by rfl) (hpl : (backTo pos (starEach es X.env)).any (·.1) = false := by rfl) : ZE X W (.Call (.Name x p) (e :: es) [] pos) (wOpN f wa) :=
  ⟨PE.imp (pe_callB hc hg hm hv ha.pa hn hdb he hpl) (opN_red hz)⟩
theorem ze_callTy (hc : CallR X (.type T') r) (hz : ZN X.K r f) (hm : X.mg x = none) (hv : bootBuiltins x = some (.type T')) (ha : ZA X W (e :: es) wa) (hg : Gl X x := by rfl) (hn : x ≠ "__name__" := by decide) (hdb : (x == ("__debug__" : Str)) = false := by decide)
    (he : starEach (e :: es) X.env = (false, eval e X.env) :: starEach es X.env := by rfl) (hpl : (backTo pos (starEach es X.env)).any (·.1) = false := by rfl) : ZE X W (.Call (.Name x p) (e :: es) [] pos) (wOpN f wa) :=
  ⟨PE.imp (pe_callTy hc hg hm hv ha.pa hn hdb he hpl) (opN_red hz)⟩
end
end
end Zy
set_option Elab.async false
set_option linter.all false
set_option maxRecDepth 100000
set_option maxHeartbeats 400000
/-! Z3: statements, targets, while, for, comprehensions. -/
namespace Zy
open PySem PySem.Spec PyProof.Rows L2

structure EzOk (K : PySem.W.Frag) (W : WX) (F : Fz) (β : List Addr) (H : Hp) (G : Ez) (D : Ends) : Prop where
  nx : ∀ ρ' μ', G.nx ρ' μ' → ∀ σ' H' F' β', Stp F β H F' β' H' → Sto K F' β' H' μ' → Slo K F' β' H' ρ' σ' → D.nx σ' H'
  rt : QOk K F β H G.rt D.rt
  bk : ∀ ρ' μ', G.bk ρ' μ' → ∀ σ' H' F' β', Stp F β H F' β' H' → Sto K F' β' H' μ' → Slo K F' β' H' ρ' σ' → D.bk σ' H'
  ct : ∀ ρ' μ', G.ct ρ' μ' → ∀ σ' H' F' β', Stp F β H F' β' H' → Sto K F' β' H' μ' → Slo K F' β' H' ρ' σ' → D.ct σ' H'
  er : ∀ e ρ' μ', G.er e ρ' μ' → ∀ c d σ' H' F' β', Stp F β H F' β' H' → Sto K F' β' H' μ' → Slo K F' β' H' ρ' σ' → ErrRep K F' H' e c d → W c d σ' H'
theorem EzOk.stp {K : PySem.W.Frag} {W : WX} {F F' : Fz} {β β' : List Addr} {H H' : Hp} {G : Ez} {D : Ends} (p : Stp F β H F' β' H') (h : EzOk K W F β H G D) : EzOk K W F' β' H' G D :=
  ⟨fun ρ' μ' q σ' H2 F2 β2 st => h.nx ρ' μ' q σ' H2 F2 β2 (p.trans st), h.rt.stp p, fun ρ' μ' q σ' H2 F2 β2 st => h.bk ρ' μ' q σ' H2 F2 β2 (p.trans st), fun ρ' μ' q σ' H2 F2 β2 st => h.ct ρ' μ' q σ' H2 F2 β2 (p.trans st),
    fun e ρ' μ' q c d σ' H2 F2 β2 st => h.er e ρ' μ' q c d σ' H2 F2 β2 (p.trans st)⟩
/-- the errors of an expression -/
theorem EzOk.eok {K : PySem.W.Frag} {W : WX} {F : Fz} {β : List Addr} {H : Hp} {G : Ez} {D : Ends} {ρ : En} {σ : L2.St} (h : EzOk K W F β H G D) (l : Slo K F β H ρ σ) : EOk K W F β H σ fun e μ => G.er e ρ μ :=
  fun e μ' q c d H' F' β' st s r => h.er e ρ μ' q c d σ H' F' β' st s (l.stp st) r

def tS (K : PySem.W.Frag) (W : WX) (w : WSt) : TS := fun D σ H => ∃ F β ρ μ G, Sto K F β H μ ∧ Slo K F β H ρ σ ∧ EzOk K W F β H G D ∧ w G ρ μ
structure ZS (X : Cx) (W : WX) (st : Stmt) (w : WSt) : Prop where
  ps : PS X st (tS X.K W w)
structure ZSs (X : Cx) (W : WX) (st : List Stmt) (w : WSt) : Prop where
  pss : PSs X st (tS X.K W w)
section
variable {X : Cx} {W : WX} {st : Stmt} {rest : List Stmt}
theorem PS.imp {t t' : TS} (h : PS X st t) (f : ∀ D σ H, t' D σ H → t D σ H) : PS X st t' := ⟨fun pins s σ H D I q => h.run pins s σ H D I (f _ _ _ q)⟩
theorem PSs.imp {sts : List Stmt} {t t' : TS} (h : PSs X sts t) (f : ∀ D σ H, t' D σ H → t D σ H) : PSs X sts t' := ⟨fun pins s σ H D I q => h.run pins s σ H D I (f _ _ _ q)⟩
def wNext : WSt := fun G ρ μ => G.nx ρ μ
def wSeq (a b : WSt) : WSt := fun G ρ μ => a { G with nx := b G } ρ μ
theorem zss_nil : ZSs X W [] wNext := ⟨PSs.imp pss_nil fun D σ H ⟨F, β, ρ, μ, G, s, l, g, w⟩ => g.nx ρ μ w σ H F β .refl s l⟩
theorem zss_one {w : WSt} (h : ZS X W st w) : ZSs X W [st] w := ⟨pss_one h.ps⟩
theorem zss_cons {wa wb : WSt} (h1 : ZS X W st wa) (h2 : ZSs X W rest wb) : ZSs X W (st :: rest) (wSeq wa wb) :=
  ⟨PSs.imp (pss_cons h1.ps h2.pss) fun D σ H ⟨F, β, ρ, μ, G, s, l, g, w⟩ => ⟨F, β, ρ, μ, { G with nx := wb G }, s, l,
    ⟨fun ρ' μ' w' σ' H' F' β' st s' l' => ⟨F', β', ρ', μ', G, s', l', g.stp st, w'⟩, g.rt, g.bk, g.ct, g.er⟩, w⟩⟩
theorem zs_pass {pos} : ZS X W (.Pass pos) wNext := ⟨PS.imp ps_pass fun D σ H ⟨F, β, ρ, μ, G, s, l, g, w⟩ => g.nx ρ μ w σ H F β .refl s l⟩
def wBreak : WSt := fun G ρ μ => G.bk ρ μ
def wCont : WSt := fun G ρ μ => G.ct ρ μ
theorem zs_break {pos} : ZS X W (.Break pos) wBreak := ⟨PS.imp ps_break fun D σ H ⟨F, β, ρ, μ, G, s, l, g, w⟩ => g.bk ρ μ w σ H F β .refl s l⟩
theorem zs_continue {pos} : ZS X W (.Continue pos) wCont := ⟨PS.imp ps_continue fun D σ H ⟨F, β, ρ, μ, G, s, l, g, w⟩ => g.ct ρ μ w σ H F β .refl s l⟩
def wDrop (we : WEx) : WSt := fun G ρ μ => we ρ μ (fun _ μ' => G.nx ρ μ') fun e μ' => G.er e ρ μ'
theorem zs_expr {e : Expr} {pos : Pos} {we : WEx} (he : ZE X W e we) (hs : swapsWith e none pos.line X.env = pure false := by rfl) : ZS X W (.Expr e pos) (wDrop we) :=
  ⟨PS.imp (ps_expr he.pe hs) fun D σ H ⟨F, β, ρ, μ, G, s, l, g, w⟩ => ⟨F, β, ρ, μ, _, _, s, l, fun d μ' w' v H' F' β' st s' r' => g.nx ρ μ' w' σ H' F' β' st s' (l.stp st), g.eok l, w⟩⟩
/-- what may be given back: the thing itself, or, frozen, a tree -/
def wRt (R : D → Mu → Prop) (d : D) (μ : Mu) : Prop := R d μ ∨ ∃ i t, d = .r i ∧ (μ[i]?).bind vwM = some t ∧ R (.t t) (μ.set i .dead)
theorem rep_of_now {K : PySem.W.Frag} {F : Fz} {β : List Addr} {H : Hp} {μ : Mu} (s : Sto K F β H μ) {i : Nat} {a : Addr} {t : T} (hi : β[i]? = some a) (h : (μ[i]?).bind vwM = some t) (z : ∀ l, t = .lst l ∨ t = .tup l → l.length ≤ sizeLine) :
    Rep K (fun b => F b ∨ b = a) H t (.ref a) := by
  have st := (s.freeze hi).2
  cases em : μ[i]? with
  | none => rw [em] at h; cases h
  | some m =>
    rw [em] at h
    have ok := s.ok i a m hi em
    have h' : vwM m = some t := h
    match m, ok, h' with
    | .lst ds, ok, h' =>
      obtain ⟨l, eu, rfl⟩ := map_some (show (unT ds).map T.lst = some t from h')
      obtain ⟨_, xs, e1, q⟩ := ok
      rw [unT_map eu] at q
      unfold Rep
      exact ⟨z l (.inl rfl), a, xs, rfl, .inr rfl, e1, RepL.stp st _ _ q.toL⟩
    | .tup ds, ok, h' =>
      obtain ⟨l, eu, rfl⟩ := map_some (show (unT ds).map T.tup = some t from h')
      obtain ⟨xs, e1, q⟩ := ok
      rw [unT_map eu] at q
      unfold Rep
      exact ⟨z l (.inr rfl), a, xs, rfl, .inl e1, RepL.stp st _ _ q.toL⟩
    | .dk ks ds, ok, h' =>
      obtain ⟨l, eu, rfl⟩ := map_some (show (unT ds).map (T.dk ks) = some t from h')
      obtain ⟨_, xs, e1, y, q⟩ := ok
      rw [unT_map eu] at q y
      unfold Rep
      exact ⟨a, xs, rfl, .inr rfl, e1, by simpa using y, RepL.stp st _ _ q.toL⟩
    | .dt ks ds, ok, h' =>
      obtain ⟨l, eu, rfl⟩ := map_some (show (unT ds).map (T.dt ks) = some t from h')
      obtain ⟨_, xs, e1, y, q⟩ := ok
      rw [unT_map eu] at q y
      unfold Rep
      exact ⟨a, xs, rfl, .inr rfl, e1, by simpa using y, RepL.stp st _ _ q.toL⟩
    | .ins C ns ds, ok, h' =>
      obtain ⟨l, eu, rfl⟩ := map_some (show (unT ds).map (T.ins C ns) = some t from h')
      obtain ⟨_, dx, xs, e1, y, q⟩ := ok
      rw [unT_map eu] at q y
      unfold Rep
      exact ⟨a, dx, xs, rfl, .inr rfl, e1, by simpa using y, RepL.stp st _ _ q.toL⟩
    | .dead, ok, h' => exact nomatch (show (none : Option T) = some t from h')
def szT : T → Prop
  | .lst l => l.length ≤ sizeLine
  | .tup l => l.length ≤ sizeLine
  | _ => True
def wRet (we : WEx) : WSt := fun G ρ μ => we ρ μ (fun d μ' => G.rt d μ' ∨ ∃ i t, d = .r i ∧ (μ'[i]?).bind vwM = some t ∧ szT t ∧ G.rt (.t t) (μ'.set i .dead)) fun e μ' => G.er e ρ μ'
theorem zs_ret {e : Expr} {pos : Pos} {we : WEx} (he : ZE X W e we) : ZS X W (.Return (some e) pos) (wRet we) :=
  ⟨PS.imp (ps_ret he.pe) fun D σ H ⟨F, β, ρ, μ, G, s, l, g, w⟩ => ⟨F, β, ρ, μ, _, _, s, l, fun d μ' w' v H' F' β' st s' r' => by
    rcases w' with w' | ⟨i, t, e1, e2, z, w'⟩
    · exact g.rt d μ' w' v H' F' β' st s' r'
    · subst e1
      obtain ⟨a, ha, rfl⟩ := r'
      obtain ⟨s2, st2⟩ := s'.freeze ha
      refine g.rt _ _ w' _ H' _ β' (st.trans st2) s2 (rep_of_now s' ha e2 fun l hl => ?_)
      rcases hl with rfl | rfl <;> exact z, g.eok l, w⟩⟩
def wRetN : WSt := fun G _ μ => G.rt (.t .non) μ
theorem zs_retN {pos} : ZS X W (.Return none pos) wRetN := ⟨PS.imp ps_retN fun D σ H ⟨F, β, ρ, μ, G, s, l, g, w⟩ => g.rt _ μ w .non H F β .refl s (@rep_non X.K F H)⟩
def wIfS (wc : WTs) (wa wb : WSt) : WSt := fun G ρ μ => wc ρ μ (fun k μ1 => if k = true then wa G ρ μ1 else wb G ρ μ1) fun e μ' => G.er e ρ μ'
theorem zs_if {c : Expr} {a b : List Stmt} {pos : Pos} {wc : WTs} {wa wb : WSt} (hc : ZT X W c wc) (ha : ZSs X W a wa) (hb : ZSs X W b wb) : ZS X W (.If c a b pos) (wIfS wc wa wb) :=
  ⟨PS.imp (ps_if hc.pt ha.pss hb.pss) fun D σ H ⟨F, β, ρ, μ, G, s, l, g, w⟩ => ⟨F, β, ρ, μ, _, _, s, l, fun k μ1 w1 H' F' β' st s' => by
    cases k with
    | true => exact ⟨F', β', ρ, μ1, G, s', l.stp st, g.stp st, w1⟩
    | false => exact ⟨F', β', ρ, μ1, G, s', l.stp st, g.stp st, w1⟩, g.eok l, w⟩⟩
/-- code that the proof never comes to -/
def wNever : WSt := fun _ _ _ => False
theorem zs_never : ZS X W st wNever := ⟨PS.imp ps_never fun D σ H ⟨F, β, ρ, μ, G, s, l, g, w⟩ => w⟩
theorem zss_never {sts : List Stmt} : ZSs X W sts wNever := ⟨PSs.imp pss_never fun D σ H ⟨F, β, ρ, μ, G, s, l, g, w⟩ => w⟩
/-- a thing of the store is frozen ahead of a statement -/
def wFz (i : Nat) (w : WSt) : WSt := fun G ρ μ => ∃ k t, ρ[i]? = some (some (.r k)) ∧ (μ[k]?).bind vwM = some t ∧ szT t ∧ w G (ρ.set i (some (.t t))) (μ.set k .dead)
theorem zss_fz (i : Nat) {sts : List Stmt} {w : WSt} (h : ZSs X W sts w) : ZSs X W sts (wFz i w) :=
  ⟨PSs.imp h.pss fun D σ H ⟨F, β, ρ, μ, G, s, l, g, k, t, e1, e2, z, w'⟩ => by
    obtain ⟨v, e3, a, ha, rfl⟩ := l.ok i _ e1
    obtain ⟨s2, st2⟩ := s.freeze ha
    have r := rep_of_now s ha e2 fun l hl => by rcases hl with rfl | rfl <;> exact z
    refine ⟨_, β, _, _, G, s2, ⟨by simpa using l.len, fun j d e => ?_⟩, g.stp st2, w'⟩
    by_cases hj : i = j
    · subst hj
      rw [List.getElem?_set_self (List.getElem?_eq_some_iff.mp e1).1] at e
      cases e
      exact ⟨_, e3, r⟩
    · rw [List.getElem?_set_ne hj] at e
      obtain ⟨v', e4, r4⟩ := l.ok j d e
      exact ⟨v', e4, r4.stp st2⟩⟩

/-! ### targets -/
abbrev WTg := D → En → Mu → (En → Mu → Prop) → Prop
def tG (K : PySem.W.Frag) (w : WTg) : TG := fun v σ H Q => ∃ F β ρ μ d Qd, Sto K F β H μ ∧ Slo K F β H ρ σ ∧ RepD K F β H d v ∧
  (∀ ρ' μ', Qd ρ' μ' → ∀ σ' H' F' β', Stp F β H F' β' H' → Sto K F' β' H' μ' → Slo K F' β' H' ρ' σ' → Q σ' H') ∧ w d ρ μ Qd
structure ZG (X : Cx) (tg : Expr) (w : WTg) : Prop where
  pg : PG X tg (tG X.K w)
theorem PG.imp {tg : Expr} {t t' : TG} (h : PG X tg t) (f : ∀ v σ H Q, t' v σ H Q → t v σ H Q) : PG X tg t' := ⟨fun pins s σ H v u Q I r q => h.run pins s σ H v u Q I r (f _ _ _ _ q)⟩
theorem Slo.set {K : PySem.W.Frag} {F : Fz} {β : List Addr} {H : Hp} {ρ : En} {σ : L2.St} (l : Slo K F β H ρ σ) (i : Nat) {d : D} {v : V} (r : RepD K F β H d v) : Slo K F β H (ρ.set i (some d)) (σ.set i (some v)) := by
  refine ⟨by simpa using l.len, fun j d' e => ?_⟩
  by_cases hj : i = j
  · subst hj
    by_cases hi : i < ρ.length
    · rw [List.getElem?_set_self hi] at e
      cases e
      exact ⟨v, by rw [List.getElem?_set_self (by rw [← l.len]; exact hi)], r⟩
    · rw [List.getElem?_eq_none (by simpa using hi)] at e; cases e
  · rw [List.getElem?_set_ne hj] at e
    obtain ⟨v', e', r'⟩ := l.ok j d' e
    exact ⟨v', by rw [List.getElem?_set_ne hj]; exact e', r'⟩
def wgName (i : Nat) : WTg := fun d ρ μ Q => Q (ρ.set i (some d)) μ
theorem zg_name (i : Nat) {x : Str} {pos : Pos} (hN : X.N.Nodup) (hi : X.N[i]? = some x := by rfl) (hx : Loc X.env.scope x := by first | exact Or.inl rfl | exact Or.inr rfl) (hf : X.fn x = true ∨ X.env.scope.names.lookup x = some .local := by first | exact .inl rfl | exact .inr rfl | assumption) : ZG X (.Name x pos) (wgName i) :=
  ⟨PG.imp (pg_name hN hi hx hf) fun v σ H Q ⟨F, β, ρ, μ, d, Qd, s, l, r, q, w⟩ => q _ μ w _ H F β .refl s (l.set i r)⟩
abbrev WTgs := List D → En → Mu → (En → Mu → Prop) → Prop
def tGs (K : PySem.W.Frag) (w : WTgs) : TGs := fun vs σ H Q => ∃ F β ρ μ ds Qd, Sto K F β H μ ∧ Slo K F β H ρ σ ∧ RepDs K F β H ds vs ∧
  (∀ ρ' μ', Qd ρ' μ' → ∀ σ' H' F' β', Stp F β H F' β' H' → Sto K F' β' H' μ' → Slo K F' β' H' ρ' σ' → Q σ' H') ∧ w ds ρ μ Qd
structure ZGs (X : Cx) (ts : List Expr) (w : WTgs) : Prop where
  pgs : PGs X ts (tGs X.K w)
theorem PGs.imp {ts : List Expr} {t t' : TGs} (h : PGs X ts t) (f : ∀ v σ H Q, t' v σ H Q → t v σ H Q) : PGs X ts t' := ⟨fun pins s σ H v u Q I r q => h.run pins s σ H v u Q I r (f _ _ _ _ q)⟩
def wgNil : WTgs := fun ds ρ μ Q => ds = [] ∧ Q ρ μ
def wgCons (a : WTg) (b : WTgs) : WTgs := fun ds ρ μ Q => ∃ d r, ds = d :: r ∧ a d ρ μ fun ρ' μ' => b r ρ' μ' Q
theorem zgs_nil : ZGs X [] wgNil := ⟨PGs.imp pgs_nil fun v σ H Q ⟨F, β, ρ, μ, ds, Qd, s, l, r, q, e, w⟩ => by
  subst e
  exact ⟨r, q ρ μ w σ H F β .refl s l⟩⟩
theorem zgs_cons {e : Expr} {es : List Expr} {a : WTg} {b : WTgs} (h1 : ZG X e a) (h2 : ZGs X es b) (hs : (assignEach (e :: es) X.env).map (·.2) = assign e X.env :: (assignEach es X.env).map (·.2) := by rfl) : ZGs X (e :: es) (wgCons a b) :=
  ⟨PGs.imp (pgs_cons h1.pg h2.pgs hs) fun v σ H Q ⟨F, β, ρ, μ, ds, Qd, s, l, r, q, d, dr, e, w⟩ => by
    subst e
    obtain ⟨x, xr, rfl, r1, r2⟩ := r
    exact ⟨x, xr, rfl, F, β, ρ, μ, d, _, s, l, r1, fun ρ' μ' w' σ' H' F' β' st s' l' => ⟨F', β', ρ', μ', dr, Qd, s', l', r2.stp st, fun ρ2 μ2 h σ2 H2 F2 β2 st2 => q ρ2 μ2 h σ2 H2 F2 β2 (st.trans st2), w'⟩, w⟩⟩
/-- the items of a tuple, by what it is -/
def itT (μ : Mu) : D → Option (List D)
  | .t (.tup l) => some (l.map .t)
  | .r i => match μ[i]? with
    | some (.tup ds) => some ds
    | _ => none
  | _ => none
theorem itT_rep {K : PySem.W.Frag} {F : Fz} {β : List Addr} {H : Hp} {μ : Mu} (s : Sto K F β H μ) {d : D} {v : V} {ds : List D} (r : RepD K F β H d v) (h : itT μ d = some ds) : ∃ a xs, v = .ref a ∧ SqT K H a xs ∧ RepDs K F β H ds xs := by
  cases d with
  | t x =>
    cases x with
    | tup l =>
      have r' : Rep K F H (.tup l) v := r
      unfold Rep at r'
      obtain ⟨_, a, xs, e, q, q'⟩ := r'
      cases (show some (l.map D.t) = some ds from h)
      exact ⟨a, xs, e, q.sq, .ofL q'⟩
    | _ => exact nomatch (show (none : Option (List D)) = some ds from h)
  | r i =>
    obtain ⟨a, ha, rfl⟩ := r
    have h' : (match μ[i]? with | some (MO.tup ds) => some ds | _ => none) = some ds := h
    cases em : μ[i]? with
    | none => rw [em] at h'; cases h'
    | some m =>
      rw [em] at h'
      cases m with
      | tup ds' =>
        cases (show some ds' = some ds from h')
        obtain ⟨xs, e, q⟩ := s.ok i a _ ha em
        exact ⟨a, xs, rfl, .of e, q⟩
      | _ => exact nomatch (show (none : Option (List D)) = some ds from h')
def wgTup (n : Nat) (w : WTgs) : WTg := fun d ρ μ Q => ∃ ds, itT μ d = some ds ∧ ds.length = n ∧ w ds ρ μ Q
theorem zg_tup {es : List Expr} {k : Nat} {pos : Pos} {w : WTgs} {n : Nat} (hc : X.calm = true) (h : ZGs X es w) (hn : (assignEach es X.env).length = n := by rfl) (hst : (assignEach es X.env).findIdx? (·.1) = none := by rfl) : ZG X (.Tuple es k pos) (wgTup n w) :=
  ⟨PG.imp (pg_tup hc h.pgs hn hst) fun v σ H Q ⟨F, β, ρ, μ, d, Qd, s, l, r, q, ds, e1, e2, w'⟩ => by
    obtain ⟨a, xs, rfl, hq, hr⟩ := itT_rep s r e1
    exact ⟨a, xs, rfl, hq, by rw [hr.length]; exact e2, F, β, ρ, μ, ds, Qd, s, l, hr, q, w'⟩⟩
/-- target = e -/
def wAsg (we : WEx) (g : WTg) : WSt := fun G ρ μ => we ρ μ (fun d μ' => g d ρ μ' G.nx) fun e μ' => G.er e ρ μ'
theorem asg_red {K : PySem.W.Frag} {we : WEx} {g : WTg} {D : Ends} {σ : L2.St} {H : Hp} (h : tS K W (wAsg we g) D σ H) : tAsg (tE K W we) (tG K g) D σ H := by
  obtain ⟨F, β, ρ, μ, G, s, l, q, w⟩ := h
  exact ⟨F, β, ρ, μ, _, _, s, l, fun d μ' w' v H' F' β' st s' r' => ⟨F', β', ρ, μ', d, G.nx, s', l.stp st, r', fun ρ2 μ2 h σ2 H2 F2 β2 st2 => q.nx ρ2 μ2 h σ2 H2 F2 β2 (st.trans st2), w'⟩, q.eok l, w⟩
theorem zs_asg {tg e : Expr} {pos : Pos} {we : WEx} {g : WTg} (he : ZE X W e we) (hg : ZG X tg g) (hs : swapsWithSole [tg] e pos.line X.env = pure false := by rfl) (hw : swappedStores [tg] e X.env = pure none := by rfl)
    (h1 : (assignEach [tg] X.env).map (·.2) = [assign tg X.env] := by rfl) : ZS X W (.Assign [tg] e pos) (wAsg we g) := ⟨PS.imp (ps_asg he.pe hg.pg hs hw h1) fun D σ H h => asg_red h⟩
theorem zs_set (i : Nat) {x : Str} {e : Expr} {pos pos' : Pos} {we : WEx} (hN : X.N.Nodup) (he : ZE X W e we) (hi : X.N[i]? = some x := by rfl) (hx : Loc X.env.scope x := by first | exact Or.inl rfl | exact Or.inr rfl) (hs : swapsWith e (some (.Name x pos')) pos.line X.env = pure false := by rfl)
    (hf : X.fn x = true ∨ X.env.scope.names.lookup x = some .local := by first | exact .inl rfl | exact .inr rfl | assumption) : ZS X W (.Assign [.Name x pos'] e pos) (wAsg we (wgName i)) :=
  ⟨PS.imp (ps_set hN hi hx he.pe hs hf) fun D σ H ⟨F, β, ρ, μ, G, s, l, q, w⟩ => ⟨F, β, ρ, μ, _, _, s, l, fun d μ' w' v H' F' β' st s' r' => q.nx _ _ w' _ H' F' β' st s' ((l.stp st).set i r'), q.eok l, w⟩⟩
/-- name op= e -/
def wAug (i : Nat) (f : F2') (we : WEx) : WSt := fun G ρ μ => ∃ d, ρ[i]? = some (some d) ∧ we ρ μ (fun d' μ2 => ∃ t t', vw μ2 d = some t ∧ vw μ2 d' = some t' ∧ f t t' fun x => G.nx (ρ.set i (some (.t x))) μ2) fun e μ' => G.er e ρ μ'

/-! ### while -/
/-- by an invariant with a measure -/
def wWhile (wc : WTs) (wb : WSt) : WSt := fun G ρ μ => ∃ I : Nat → En → Mu → Prop, (∃ n, I n ρ μ) ∧ ∀ n ρ μ, I n ρ μ →
  wc ρ μ (fun k μ1 => if k = true then wb { G with nx := fun ρ' μ' => ∃ m, m < n ∧ I m ρ' μ', ct := fun ρ' μ' => ∃ m, m < n ∧ I m ρ' μ', bk := G.nx } ρ μ1 else G.nx ρ μ1) fun e μ' => G.er e ρ μ'
theorem zs_while {c : Expr} {body : List Stmt} {pos : Pos} {wc : WTs} {wb : WSt} (hp : PassesOwn (model X.prog X.w) X.A X.env X.xe) (hc : ZT X W c wc) (hb : ZSs X W body wb) : ZS X W (.While c body [] pos) (wWhile wc wb) :=
  ⟨PS.imp (ps_while hp hc.pt hb.pss) fun D σ H ⟨F, β, ρ, μ, G, s, l, g, I, ⟨n0, i0⟩, w⟩ => by
    refine ⟨fun n σ1 H1 => ∃ F1 β1 ρ1 μ1, Stp F β H F1 β1 H1 ∧ Sto X.K F1 β1 H1 μ1 ∧ Slo X.K F1 β1 H1 ρ1 σ1 ∧ I n ρ1 μ1, ⟨n0, F, β, ρ, μ, .refl, s, l, i0⟩, ?_⟩
    rintro n σ1 H1 ⟨F1, β1, ρ1, μ1, st1, s1, l1, i1⟩
    refine ⟨F1, β1, ρ1, μ1, _, _, s1, l1, fun k μ2 w2 H2 F2 β2 st2 s2 => ?_, (g.stp st1).eok l1, w n ρ1 μ1 i1⟩
    cases k with
    | true =>
      rw [if_pos rfl]
      refine ⟨_, fun σ' H' q => q, F2, β2, ρ1, μ2, { G with nx := fun ρ' μ' => ∃ m, m < n ∧ I m ρ' μ', ct := fun ρ' μ' => ∃ m, m < n ∧ I m ρ' μ', bk := G.nx }, s2, l1.stp st2, ⟨?_, (g.stp (st1.trans st2)).rt, (g.stp (st1.trans st2)).nx, ?_, (g.stp (st1.trans st2)).er⟩, w2⟩
      all_goals exact fun ρ' μ' ⟨m, hm, im⟩ σ' H' F' β' st s' l' => ⟨m, hm, F', β', ρ', μ', st1.trans (st2.trans st), s', l', im⟩
    | false =>
      rw [if_neg Bool.false_ne_true]
      exact (g.stp (st1.trans st2)).nx ρ1 μ2 w2 σ1 H2 F2 β2 .refl s2 (l1.stp st2)⟩
end
end Zy
set_option Elab.async false
set_option linter.all false
set_option maxRecDepth 100000
set_option maxHeartbeats 400000
/-! Z4: what is walked; for; list comprehensions. -/
namespace Zy
open PySem PySem.Spec PyProof.Rows L2

/-- the walk J yields the things ds, as long as the store is as chk says -/
def Src (K : PySem.W.Frag) (J : It) (ds : List D) (chk : Mu → Prop) (F : Fz) (β : List Addr) (H : Hp) : Prop :=
  ∀ F' β' H' μ', Stp F β H F' β' H' → Sto K F' β' H' μ' → chk μ' → ∀ i : Nat,
    (∀ d, ds[i]? = some d → J.go i H' ∧ ∀ x H2, J.yld i H' x H2 → ∃ F2, Gro F' H' F2 H2 ∧ RepD K F2 β' H2 d x) ∧ (i = ds.length → J.stop i H')
abbrev WIt := En → Mu → (List D → (Mu → Prop) → Mu → Prop) → EK → Prop
def tI (K : PySem.W.Frag) (W : WX) (wi : WIt) : TI := fun σ H R => ∃ F β ρ μ Qi Ed, Sto K F β H μ ∧ Slo K F β H ρ σ ∧
  (∀ ds chk μ', Qi ds chk μ' → ∀ J H' F' β', Stp F β H F' β' H' → Sto K F' β' H' μ' → Src K J ds chk F' β' H' → R J H') ∧ EOk K W F β H σ Ed ∧ wi ρ μ Qi Ed
structure ZI (X : Cx) (W : WX) (tg iter : Expr) (wi : WIt) : Prop where
  pi : PI X tg iter (tI X.K W wi)
theorem PI.imp {X : Cx} {tg iter : Expr} {t t' : TI} (h : PI X tg iter t) (f : ∀ σ H R, t' σ H R → t σ H R) : PI X tg iter t' := ⟨fun pins s σ H R I q => h.run pins s σ H R I (f _ _ _ q)⟩

def wLoop (chk : Mu → Prop) (tg : WTg) (wb : WSt) (G : Ez) : List D → En → Mu → Prop
  | [], ρ, μ => chk μ ∧ G.nx ρ μ
  | d :: r, ρ, μ => chk μ ∧ tg d ρ μ fun ρ' μ' => wb { G with nx := wLoop chk tg wb G r, ct := wLoop chk tg wb G r, bk := G.nx } ρ' μ'
def wFor (wi : WIt) (tg : WTg) (wb : WSt) : WSt := fun G ρ μ => wi ρ μ (fun ds chk μ1 => wLoop chk tg wb G ds ρ μ1) fun e μ' => G.er e ρ μ'
section
variable {X : Cx} {W : WX}
theorem drop_cons {α : Type} {l : List α} {i : Nat} {x : α} (h : l[i]? = some x) : l.drop i = x :: l.drop (i + 1) := by
  obtain ⟨hi, e⟩ := List.getElem?_eq_some_iff.mp h
  rw [← e]
  exact List.drop_eq_getElem_cons hi
theorem zs_for {tg iter : Expr} {body : List Stmt} {pos : Pos} {wi : WIt} {g : WTg} {wb : WSt} (hp : PassesOwn (model X.prog X.w) X.A X.env X.xe) (hc : X.calm = true) (hi : ZI X W tg iter wi) (hg : ZG X tg g) (hb : ZSs X W body wb)
    (hs : ∀ x, foldedSetIterable iter X.env x = pure x := by intro _; rfl) : ZS X W (.For tg iter body [] pos) (wFor wi g wb) :=
  ⟨PS.imp (ps_for hp hc hi.pi hg.pg hb.pss hs) fun D σ H ⟨F, β, ρ, μ, G, s, l, q, w⟩ => by
    refine ⟨F, β, ρ, μ, _, _, s, l, fun ds chk μ1 w1 J H1 F1 β1 st1 s1 src => ?_, q.eok l, w⟩
    refine ⟨fun i m σ2 H2 => m = ds.length - i ∧ i ≤ ds.length ∧ ∃ F2 β2 ρ2 μ2, Stp F1 β1 H1 F2 β2 H2 ∧ Sto X.K F2 β2 H2 μ2 ∧ Slo X.K F2 β2 H2 ρ2 σ2 ∧ wLoop chk g wb G (ds.drop i) ρ2 μ2,
      ⟨ds.length, by simp, Nat.zero_le _, F1, β1, ρ, μ1, .refl, s1, l.stp st1, w1⟩, ?_⟩
    rintro i m σ2 H2 ⟨rfl, hi, F2, β2, ρ2, μ2, st2, s2, l2, w2⟩
    cases e : ds[i]? with
    | none =>
      have hl : ds.length ≤ i := List.getElem?_eq_none_iff.mp e
      rw [List.drop_eq_nil_of_le hl] at w2
      exact .inl ⟨(src F2 β2 H2 μ2 st2 s2 w2.1 i).2 (Nat.le_antisymm hi hl), q.nx ρ2 μ2 w2.2 σ2 H2 F2 β2 (st1.trans st2) s2 l2⟩
    | some d =>
      have hl : i < ds.length := (List.getElem?_eq_some_iff.mp e).1
      rw [drop_cons e] at w2
      obtain ⟨c2, w2⟩ := w2
      obtain ⟨go, yl⟩ := (src F2 β2 H2 μ2 st2 s2 c2 i).1 d e
      refine .inr ⟨go, fun σ' H' => ∃ F' β' ρ' μ', Stp F1 β1 H1 F' β' H' ∧ Sto X.K F' β' H' μ' ∧ Slo X.K F' β' H' ρ' σ' ∧ wLoop chk g wb G (ds.drop (i + 1)) ρ' μ',
        fun σ' H' h => ⟨ds.length - (i + 1), by omega, rfl, hl, h⟩, fun x H3 y => ?_⟩
      obtain ⟨F3, g3, r3⟩ := yl x H3 y
      refine ⟨F3, β2, ρ2, μ2, d, _, s2.gro g3, l2.stp g3.stp, r3, fun ρ4 μ4 w4 σ4 H4 F4 β4 st4 s4 l4 => ?_, w2⟩
      refine ⟨F4, β4, ρ4, μ4, { G with nx := wLoop chk g wb G (ds.drop (i + 1)), ct := wLoop chk g wb G (ds.drop (i + 1)), bk := G.nx }, s4, l4, ⟨?_, (q.stp (st1.trans (st2.trans (g3.stp.trans st4)))).rt, (q.stp (st1.trans (st2.trans (g3.stp.trans st4)))).nx, ?_, (q.stp (st1.trans (st2.trans (g3.stp.trans st4)))).er⟩, w4⟩
      all_goals exact fun ρ5 μ5 h5 σ5 H5 F5 β5 st5 s5 l5 => ⟨F5, β5, ρ5, μ5, st2.trans (g3.stp.trans (st4.trans st5)), s5, l5, h5⟩⟩

/-! ### targets of a comprehension: only its own slots change -/
def tGw (K : PySem.W.Frag) (vs : List Nat) (w : WTg) : TG := fun v σ H Q => ∃ F β ρ μ d Qd, Sto K F β H μ ∧ Slo K F β H ρ σ ∧ RepD K F β H d v ∧
  (∀ ρ' μ', Qd ρ' μ' → ∀ σ' H' F' β', Stp F β H F' β' H' → Sto K F' β' H' μ' → Slo K F' β' H' ρ' σ' → wipe σ' vs = wipe σ vs → Q σ' H') ∧ w d ρ μ Qd
def tGsw (K : PySem.W.Frag) (vs : List Nat) (w : WTgs) : TGs := fun xs σ H Q => ∃ F β ρ μ ds Qd, Sto K F β H μ ∧ Slo K F β H ρ σ ∧ RepDs K F β H ds xs ∧
  (∀ ρ' μ', Qd ρ' μ' → ∀ σ' H' F' β', Stp F β H F' β' H' → Sto K F' β' H' μ' → Slo K F' β' H' ρ' σ' → wipe σ' vs = wipe σ vs → Q σ' H') ∧ w ds ρ μ Qd
structure ZC (X : Cx) (vs : List Nat) (tg : Expr) (w : WTg) : Prop where
  pg : PG X tg (tGw X.K vs w)
structure ZCs (X : Cx) (vs : List Nat) (ts : List Expr) (w : WTgs) : Prop where
  pgs : PGs X ts (tGsw X.K vs w)
theorem wipe_set {i : Nat} {o : Option V} : ∀ {vs : List Nat} {σ : L2.St}, i ∈ vs → wipe (σ.set i o) vs = wipe σ vs
  | v :: vs, σ, h => by
    unfold wipe
    by_cases e : v = i
    · subst e
      by_cases h2 : v ∈ vs
      · rw [wipe_set h2]
      · have aux : ∀ (us : List Nat) (τ : L2.St), v ∉ us → wipe (τ.set v o) us = (wipe τ us).set v o := by
          intro us
          induction us with
          | nil => intro τ _; rfl
          | cons u us ih =>
            intro τ hn
            have h1 : v ≠ u := fun e => hn (by rw [e]; exact List.mem_cons_self)
            show (wipe (τ.set v o) us).set u none = ((wipe τ us).set u none).set v o
            rw [ih τ (fun z => hn (List.mem_cons_of_mem _ z)), List.set_comm _ _ h1]
        rw [aux vs σ h2, List.set_set]
    · rcases List.mem_cons.mp h with z | z
      · exact absurd z.symm e
      · rw [wipe_set z]
theorem zc_name (i : Nat) {vs : List Nat} {x : Str} {pos : Pos} (hN : X.N.Nodup) (hv : i ∈ vs := by decide) (hi : X.N[i]? = some x := by rfl) (hx : Loc X.env.scope x := by first | exact Or.inl rfl | exact Or.inr rfl) (hf : X.fn x = true ∨ X.env.scope.names.lookup x = some .local := by first | exact .inl rfl | exact .inr rfl | assumption) : ZC X vs (.Name x pos) (wgName i) :=
  ⟨PG.imp (pg_name hN hi hx hf) fun v σ H Q ⟨F, β, ρ, μ, d, Qd, s, l, r, q, w⟩ => q _ μ w _ H F β .refl s (l.set i r) (wipe_set hv)⟩
theorem zcs_nil {vs : List Nat} : ZCs X vs [] wgNil := ⟨PGs.imp pgs_nil fun v σ H Q ⟨F, β, ρ, μ, ds, Qd, s, l, r, q, e, w⟩ => by
  subst e
  exact ⟨r, q ρ μ w σ H F β .refl s l rfl⟩⟩
theorem zcs_cons {vs : List Nat} {e : Expr} {es : List Expr} {a : WTg} {b : WTgs} (h1 : ZC X vs e a) (h2 : ZCs X vs es b) (hs : (assignEach (e :: es) X.env).map (·.2) = assign e X.env :: (assignEach es X.env).map (·.2) := by rfl) : ZCs X vs (e :: es) (wgCons a b) :=
  ⟨PGs.imp (pgs_cons h1.pg h2.pgs hs) fun v σ H Q ⟨F, β, ρ, μ, ds, Qd, s, l, r, q, d, dr, e, w⟩ => by
    subst e
    obtain ⟨x, xr, rfl, r1, r2⟩ := r
    exact ⟨x, xr, rfl, F, β, ρ, μ, d, _, s, l, r1, fun ρ' μ' w' σ' H' F' β' st s' l' we => ⟨F', β', ρ', μ', dr, Qd, s', l', r2.stp st, fun ρ2 μ2 h σ2 H2 F2 β2 st2 s2 l2 we2 => q ρ2 μ2 h σ2 H2 F2 β2 (st.trans st2) s2 l2 (we2.trans we), w'⟩, w⟩⟩
theorem zc_tup {vs : List Nat} {es : List Expr} {k : Nat} {pos : Pos} {w : WTgs} {n : Nat} (hc : X.calm = true) (h : ZCs X vs es w) (hn : (assignEach es X.env).length = n := by rfl) (hst : (assignEach es X.env).findIdx? (·.1) = none := by rfl) : ZC X vs (.Tuple es k pos) (wgTup n w) :=
  ⟨PG.imp (pg_tup hc h.pgs hn hst) fun v σ H Q ⟨F, β, ρ, μ, d, Qd, s, l, r, q, ds, e1, e2, w'⟩ => by
    obtain ⟨a, xs, rfl, hq, hr⟩ := itT_rep s r e1
    exact ⟨a, xs, rfl, hq, by rw [hr.length]; exact e2, F, β, ρ, μ, ds, Qd, s, l, hr, q, w'⟩⟩

/-! ### list comprehensions -/
def wEk : EK := fun _ _ => False
def wipeE (ρ : En) : List Nat → En
  | [] => ρ
  | v :: vs => (wipeE ρ vs).set v none
def wComp (chk : Mu → Prop) (tg : WTg) (wt : WTs) (we : WEx) (ρ : En) (Q : List D → Mu → Prop) : List D → List D → Mu → Prop
  | [], acc, μ => chk μ ∧ Q acc μ
  | d :: r, acc, μ => chk μ ∧ tg d ρ μ fun ρ' μ' => wt ρ' μ' (fun b μ2 => if b = true then we ρ' μ2 (fun y μ3 => wComp chk tg wt we ρ Q r (acc ++ [y]) μ3) wEk else wComp chk tg wt we ρ Q r acc μ2) wEk
def wLc (wi : WIt) (tg : WTg) (wt : WTs) (we : WEx) (vs : List Nat) : WEx := fun ρ μ Q E => wi ρ μ (fun ds chk μ1 => ds.length ≤ sizeLine ∧
  wComp chk tg wt we (wipeE ρ vs) (fun acc μ2 => (∃ ts, unT acc = some ts ∧ Q (.t (.lst ts)) μ2) ∨ Q (.r μ2.length) (μ2 ++ [.lst acc])) ds [] μ1) E
def wYes : WTs := fun _ μ Q _ => Q true μ
abbrev W0 : WX := fun _ _ _ _ => False
section
variable {K : PySem.W.Frag} {F F' : Fz} {β β' : List Addr} {H H' : Hp} {μ μ' : Mu} {ρ : En} {σ : L2.St}
theorem Slo.wipe (l : Slo K F β H ρ σ) : ∀ vs : List Nat, Slo K F β H (wipeE ρ vs) (wipe σ vs)
  | [] => l
  | v :: vs => by
    have ih := Slo.wipe l vs
    unfold wipeE L2.wipe
    refine ⟨by simpa using ih.len, fun j d e => ?_⟩
    by_cases hj : v = j
    · subst hj
      by_cases hi : v < (wipeE ρ vs).length
      · rw [List.getElem?_set_self hi] at e; cases e
      · rw [List.getElem?_eq_none (by simpa using hi)] at e; cases e
    · rw [List.getElem?_set_ne hj] at e
      obtain ⟨x, e', r⟩ := ih.ok j d e
      exact ⟨x, by rw [List.getElem?_set_ne hj]; exact e', r⟩
/-- a thing that was made behind the start and that the store does not know is changed -/
theorem Stp.aside (p : Stp F β H F' β' H') {a : Addr} (ha : H a = none) (nf : ¬ F' a) (nb : a ∉ β') (o : HO) (s : Sto K F β H μ) : Stp F β H F' β' (upd H' a o) := by
  have ne : ∀ b, H b ≠ none → b ≠ a := fun b h e => h (by rw [e]; exact ha)
  refine ⟨p.f, fun b f => ?_, fun b xs h => ?_, p.b, fun b u h n1 n2 => ?_, p.n, p.g, fun b h => ?_⟩
  · rw [upd_ne (ne b (s.ftr b f))]; exact p.h b f
  · rw [upd_ne (ne b (some_ne h))]; exact p.t b xs h
  · rw [upd_ne (ne b (some_ne h))]; exact p.k b u h n1 n2
  · rw [upd_ne (ne b h)]; exact p.s b h
theorem Mon.aside {a : Addr} {xs : List V} (ha : H a = some (.lst xs)) (nf : ¬ F a) (o : HO) : Mon F β H F β (upd H a o) :=
  ⟨fun _ h => h, fun b f => upd_ne fun e => nf (by rw [← e]; exact f), fun b ys h => by
    rw [upd_ne fun e => by rw [e, ha] at h; cases h]; exact h, List.prefix_refl _⟩
theorem Sto.aside (s : Sto K F β H μ) {a : Addr} {xs : List V} (ha : H a = some (.lst xs)) (nf : ¬ F a) (nb : a ∉ β) (o : HO) : Sto K F β (upd H a o) μ := by
  have m := Mon.aside (β := β) ha nf o
  have sm : ∀ b, b ≠ a → ∀ u, H b = some u → (upd H a o) b = some u := fun b e u h => by rw [upd_ne e]; exact h
  refine ⟨s.len, s.nd, fun i b mo e1 e2 => ?_, fun b h => ?_, fun b h => ?_⟩
  · have e : b ≠ a := fun e => nb (by rw [← e]; exact List.mem_of_getElem? e1)
    have ok := s.ok i b mo e1 e2
    match mo, ok with
    | .lst ds, ok => obtain ⟨n, ys, q, r⟩ := ok; exact ⟨n, ys, sm b e _ q, r.mon m⟩
    | .tup ds, ok => obtain ⟨ys, q, r⟩ := ok; exact ⟨ys, sm b e _ q, r.mon m⟩
    | .dk ks ds, ok => obtain ⟨n, ys, q, z, r⟩ := ok; exact ⟨n, ys, sm b e _ q, z, r.mon m⟩
    | .dt ks ds, ok => obtain ⟨n, ys, q, z, r⟩ := ok; exact ⟨n, ys, sm b e _ q, z, r.mon m⟩
    | .ins C ns ds, ok => obtain ⟨n, dx, ys, q, z, r⟩ := ok; exact ⟨n, dx, ys, sm b e _ q, z, r.mon m⟩
    | .dead, ok => trivial
  · rw [upd_ne fun e => nf (by rw [← e]; exact h)]; exact s.ftr b h
  · rw [upd_ne fun e => nb (by rw [← e]; exact h)]; exact s.btr b h
end
/-- a comprehension's reading: H1 the heap at its start, L its new list -/
theorem lc_red {wi : WIt} {g : WTg} {wt : WTs} {we : WEx} {vs : List Nat} {K : PySem.W.Frag} {σ : L2.St} {H : Hp} {Q : VK} (h : tE K W (wLc wi g wt we vs) σ H Q) :
    tLc (tI K W wi) (tGw K vs g) (tT K W0 wt) (tE K W0 we) vs σ H Q := by
  obtain ⟨F, β, ρ, μ, Qd, Ed, s, l, q, o, w⟩ := h
  refine ⟨F, β, ρ, μ, _, Ed, s, l, fun ds chk μ1 ⟨z, w1⟩ J H1 F1 β1 st1 s1 src L hL => ?_, o, w⟩
  have l1 := (l.stp st1).wipe vs
  -- the state at a turn
  let Good : Nat → Hp → Prop := fun i H2 => ∃ F2 β2 μ2 acc xs, Stp F1 β1 H1 F2 β2 H2 ∧ Sto K F2 β2 H2 μ2 ∧ ¬ F2 L ∧ L ∉ β2 ∧ H2 L = some (.lst xs) ∧ RepDs K F2 β2 H2 acc xs ∧ acc.length ≤ i ∧
    wComp chk g wt we (wipeE ρ vs) (fun acc μ2 => (∃ ts, unT acc = some ts ∧ Qd (.t (.lst ts)) μ2) ∨ Qd (.r μ2.length) (μ2 ++ [.lst acc])) (ds.drop i) acc μ2
  refine ⟨fun i m H2 => m = ds.length - i ∧ i ≤ ds.length ∧ Good i H2, ⟨ds.length, by simp, Nat.zero_le _, F1, β1, μ1, [], [], ?_⟩, ?_⟩
  · have g0 := Gro.newT (o := .lst []) s1.ftr hL
    exact ⟨g0.stp, s1.gro g0, fun f => s1.ftr L f hL, fun b => s1.btr L b hL, upd_same, rfl, Nat.le_refl _, w1⟩
  rintro i m H2 ⟨rfl, hi, F2, β2, μ2, acc, xs, st2, s2, nf, nb, e2, r2, za, w2⟩
  cases e : ds[i]? with
  | none =>
    have hl : ds.length ≤ i := List.getElem?_eq_none_iff.mp e
    rw [List.drop_eq_nil_of_le hl] at w2
    obtain ⟨c2, w2⟩ := w2
    -- the list, in the end
    refine .inl ⟨(src F2 β2 H2 μ2 st2 s2 c2 i).2 (Nat.le_antisymm hi hl), ?_⟩
    rcases w2 with ⟨ts, h1, h2⟩ | h2
    · have ea := unT_map h1
      subst ea
      have st3 : Stp F1 β1 H1 (fun b => F2 b ∨ b = L) β2 H2 := ⟨fun a f => .inl (st2.f a f), st2.h, st2.t, st2.b, st2.k, st2.n, fun a z => z.elim (st2.g a) fun e => .inr (.inr (by rw [e]; exact hL)), st2.s⟩
      have m3 : Mon F2 β2 H2 (fun b => F2 b ∨ b = L) β2 H2 := ⟨fun _ => .inl, fun _ _ => rfl, fun _ _ h => h, List.prefix_refl _⟩
      have s3 : Sto K (fun b => F2 b ∨ b = L) β2 H2 μ2 := by
        refine ⟨s2.len, s2.nd, fun j b mo e1 e3 => ?_, fun a z => z.elim (s2.ftr a) fun e => (by rw [e, e2]; exact fun y => nomatch y), s2.btr⟩
        have nL : b ≠ L := fun e => nb (by rw [← e]; exact List.mem_of_getElem? e1)
        have ok := s2.ok j b mo e1 e3
        match mo, ok with
        | .lst ds, ok => obtain ⟨n, ys, q, r⟩ := ok; exact ⟨fun z => z.elim n nL, ys, q, r.mon m3⟩
        | .tup ds, ok => obtain ⟨ys, q, r⟩ := ok; exact ⟨ys, q, r.mon m3⟩
        | .dk ks ds, ok => obtain ⟨n, ys, q, z, r⟩ := ok; exact ⟨fun z => z.elim n nL, ys, q, z, r.mon m3⟩
        | .dt ks ds, ok => obtain ⟨n, ys, q, z, r⟩ := ok; exact ⟨fun z => z.elim n nL, ys, q, z, r.mon m3⟩
        | .ins C ns ds, ok => obtain ⟨n, dx, ys, q, z, r⟩ := ok; exact ⟨fun z => z.elim n nL, dx, ys, q, z, r.mon m3⟩
        | .dead, ok => trivial
      refine q _ μ2 h2 (.ref L) H2 _ β2 (st1.trans st3) s3 ?_
      show Rep K _ H2 (.lst ts) (.ref L)
      unfold Rep
      have zl : ts.length ≤ sizeLine := by rw [List.length_map] at za; exact Nat.le_trans za (Nat.le_trans hi z)
      exact ⟨zl, L, xs, rfl, .inr rfl, e2, RepL.mon m3 _ _ r2.toL⟩
    · have st3 : Stp F1 β1 H1 F2 (β2 ++ [L]) H2 := ⟨st2.f, st2.h, st2.t, st2.b.trans (List.prefix_append _ _), st2.k, fun a z => (List.mem_append.mp z).elim (st2.n a) fun e => .inr (by rw [List.mem_singleton.mp e]; exact hL), st2.g, st2.s⟩
      have m3 : Mon F2 β2 H2 F2 (β2 ++ [L]) H2 := ⟨fun _ h => h, fun _ _ => rfl, fun _ _ h => h, List.prefix_append _ _⟩
      have s3 : Sto K F2 (β2 ++ [L]) H2 (μ2 ++ [.lst acc]) := by
        refine ⟨by simp [s2.len], List.nodup_append.mpr ⟨s2.nd, by simp, fun a ha b hb e => nb (by rw [List.mem_singleton.mp hb] at e; rw [← e]; exact ha)⟩, fun j b mo e1 e3 => ?_, s2.ftr, fun a z => (List.mem_append.mp z).elim (s2.btr a) fun e => by rw [List.mem_singleton.mp e, e2]; exact fun y => nomatch y⟩
        by_cases hj : j < β2.length
        · rw [List.getElem?_append_left hj] at e1
          rw [List.getElem?_append_left (by rw [← s2.len]; exact hj)] at e3
          have ok := s2.ok j b mo e1 e3
          match mo, ok with
          | .lst ds, ok => obtain ⟨n, ys, q, r⟩ := ok; exact ⟨n, ys, q, r.mon m3⟩
          | .tup ds, ok => obtain ⟨ys, q, r⟩ := ok; exact ⟨ys, q, r.mon m3⟩
          | .dk ks ds, ok => obtain ⟨n, ys, q, z, r⟩ := ok; exact ⟨n, ys, q, z, r.mon m3⟩
          | .dt ks ds, ok => obtain ⟨n, ys, q, z, r⟩ := ok; exact ⟨n, ys, q, z, r.mon m3⟩
          | .ins C ns ds, ok => obtain ⟨n, dx, ys, q, z, r⟩ := ok; exact ⟨n, dx, ys, q, z, r.mon m3⟩
          | .dead, ok => trivial
        · have ej : j = β2.length := by
            have := (List.getElem?_eq_some_iff.mp e1).1
            simp at this; omega
          subst ej
          rw [List.getElem?_append_right (Nat.le_refl _)] at e1
          rw [List.getElem?_append_right (by rw [s2.len]; exact Nat.le_refl _)] at e3
          simp at e1
          rw [show β2.length - μ2.length = 0 by rw [s2.len]; omega] at e3
          simp at e3
          subst e1 e3
          exact ⟨nf, xs, e2, r2.mon m3⟩
      exact q _ _ h2 (.ref L) H2 _ _ (st1.trans st3) s3 ⟨L, by rw [← s2.len]; simp, rfl⟩
  | some d =>
    have hl : i < ds.length := (List.getElem?_eq_some_iff.mp e).1
    rw [drop_cons e] at w2
    obtain ⟨c2, w2⟩ := w2
    obtain ⟨go, yl⟩ := (src F2 β2 H2 μ2 st2 s2 c2 i).1 d e
    refine .inr ⟨go, Good (i + 1), fun H' h => ⟨ds.length - (i + 1), by omega, rfl, hl, h⟩, fun x H3 y => ?_⟩
    obtain ⟨F3, g3, r3⟩ := yl x H3 y
    have s3 := s2.gro g3
    have keep : ∀ {F4 β4 H4}, Stp F3 β2 H3 F4 β4 H4 → ¬ F4 L ∧ L ∉ β4 ∧ H4 L = some (.lst xs) := fun {F4 β4 H4} st4 => by
      have e3 : H3 L = some (.lst xs) := g3.same L _ e2
      have nf3 : ¬ F3 L := fun z => (g3.g L z).elim nf fun y => by rw [e2] at y; cases y
      refine ⟨fun z => ?_, fun z => ?_, st4.k L _ e3 nb nf3⟩
      · rcases st4.g L z with y | y | y
        · exact nf3 y
        · exact nb y
        · rw [e3] at y; cases y
      · rcases st4.n L z with y | y
        · exact nb y
        · rw [e3] at y; cases y
    refine ⟨F3, β2, wipeE ρ vs, μ2, d, _, s3, (l1.stp st2).stp g3.stp, r3, fun ρ4 μ4 w4 σ4 H4 F4 β4 st4 s4 l4 we4 => ⟨we4.trans ?_, ?_⟩, w2⟩
    · have aux : ∀ (us ws : List Nat) (τ : L2.St), (∀ u ∈ us, u ∈ ws) → wipe (wipe τ us) ws = wipe τ ws := by
        intro us
        induction us with
        | nil => intro ws τ _; rfl
        | cons u us ih =>
          intro ws τ hs
          show wipe ((wipe τ us).set u none) ws = _
          rw [wipe_set (hs u List.mem_cons_self)]
          exact ih ws τ fun z hz => hs z (List.mem_cons_of_mem _ hz)
      exact aux vs vs σ fun _ h => h
    refine ⟨F4, β4, ρ4, μ4, _, wEk, s4, l4, fun b μ5 w5 H5 F5 β5 st5 s5 => ?_, fun _ _ z => z.elim, w4⟩
    cases b with
    | true =>
      rw [if_pos rfl]
      rw [if_pos rfl] at w5
      refine ⟨F5, β5, ρ4, μ5, _, wEk, s5, l4.stp st5, fun y μ6 w6 v H6 F6 β6 st6 s6 r6 => ?_, fun _ _ z => z.elim, w5⟩
      obtain ⟨k1, k2, k3⟩ := keep (st4.trans (st5.trans st6))
      have st7 : Stp F1 β1 H1 F6 β6 H6 := st2.trans (g3.stp.trans (st4.trans (st5.trans st6)))
      have m7 := Mon.aside (β := β6) k3 k1 (.lst (xs ++ [v]))
      have sz : xs.length < sizeLine := by rw [r2.length]; exact Nat.lt_of_le_of_lt za (Nat.lt_of_lt_of_le hl z)
      refine ⟨xs, k3, sz, F6, β6, μ6, acc ++ [y], xs ++ [v], st7.aside hL k1 k2 _ s1, s6.aside k3 k1 k2 _, k1, k2, upd_same, ?_, by simp; omega, w6⟩
      refine RepDs.append ((r2.stp (g3.stp.trans (st4.trans (st5.trans st6)))).mon m7) ⟨v, [], rfl, r6.mon m7, rfl⟩
    | false =>
      rw [if_neg Bool.false_ne_true]
      rw [if_neg Bool.false_ne_true] at w5
      obtain ⟨k1, k2, k3⟩ := keep (st4.trans st5)
      exact ⟨F5, β5, μ5, acc, xs, st2.trans (g3.stp.trans (st4.trans st5)), s5, k1, k2, k3, r2.stp (g3.stp.trans (st4.trans st5)), by omega, w5⟩
end
end Zy
set_option Elab.async false
set_option linter.all false
set_option maxRecDepth 100000
set_option maxHeartbeats 400000
/-! Z5: defs and their calls. -/
namespace Zy
open PySem PySem.Spec PyProof.Rows L2

abbrev WFn := List D → Mu → (D → Mu → Prop) → EK → Prop
/-- a def's promise by trees -/
def spZ (K : PySem.W.Frag) (n : Nat) (w : WFn) : Sp := fun vs H Q E => ∃ F β ds μ Qd Ed, ds.length = n ∧ Sto K F β H μ ∧ RepDs K F β H ds vs ∧ QOk K F β H Qd Q ∧
  (∀ e μ', Ed e μ' → ∀ c d H' F' β', Stp F β H F' β' H' → Sto K F' β' H' μ' → ErrRep K F' H' e c d → E c d H') ∧ w ds μ Qd Ed
def ezF (Q : D → Mu → Prop) (E : EK) : Ez := { nx := fun _ μ => Q (.t .non) μ, rt := Q, bk := fun _ _ => False, ct := fun _ _ => False, er := fun e _ μ => E e μ }
/-- what a body of n names is worth, called -/
def wFun (n : Nat) (wb : WSt) : WFn := fun ds μ Q E => wb (ezF Q E) (ds.map some ++ List.replicate (n - ds.length) none) μ
section
variable {P : Program} {w : World} {K : PySem.W.Frag} {mg : Str → Option Value} {base : Heap}
theorem start_slo {F : Fz} {β : List Addr} {H : Hp} {N : List Str} {ds : List D} {vs : List V} (r : RepDs K F β H ds vs) : Slo K F β H (ds.map some ++ List.replicate (N.length - ds.length) none) (L2.start N vs) := by
  have hl := r.length
  unfold L2.start
  refine ⟨by simp [hl], fun i d e => ?_⟩
  by_cases hi : i < ds.length
  · rw [List.getElem?_append_left (by simpa using hi), List.getElem?_map] at e
    cases e1 : ds[i]? with
    | none => rw [e1] at e; cases e
    | some d' =>
      rw [e1] at e
      cases e
      obtain ⟨v, ev, rv⟩ := r.get e1
      exact ⟨v, by rw [List.getElem?_append_left (by simpa [hl] using hi), List.getElem?_map, ev]; rfl, rv⟩
  · rw [List.getElem?_append_right (by simpa using hi), List.getElem?_replicate] at e
    split at e <;> cases e
/-- THE RULE for a def: its body by trees -/
theorem fun_ok {k : Nat} {name qual : Str} {params : Arguments} {body : List Stmt} {scope : Scope} {dvs : List V} {kws : List (Str × V)} {f : Addr} {fd : FuncData} {N ps : List Str} {wb : WSt} (Fd : FunD K name qual params body scope dvs kws f fd) (S : FnScope N ps scope)
    (hb : ∀ (cdv : Value) (A : Around) (outer : List PySem.Env) (s : Shared) (H : Hp) (E : XK), Room k (A.deeper (envOfC qual scope s.heap.objs.size f cdv)) →
      ZSs (cxOf (L2.CX P w) P w K mg base N qual scope f cdv A outer s H E) (fun c d _ H' => E c d H') body wb) :
    FnOk P w K mg base (L2.CX P w) (k + 1) f fd ps (spZ K ps.length (wFun N.length wb)) := by
  obtain ⟨oc, od, dV, kV, doc, pm, an, cdv, ct, osl, rfl, lk, hcd, _, _⟩ := Fd.ex
  refine fn_of lk hcd S (fun vs H Q E ⟨F, β, ds, μ, Qd, Ed, hl, _, r, _⟩ => by rw [r.length, hl]) fun A outer s H vs Q E hr ⟨F, β, ds, μ, Qd, Ed, hl, st, r, q, e, h⟩ => ?_
  refine ⟨_, (hb cdv A outer s H E hr).pss, F, β, _, μ, ezF Qd Ed, st, start_slo r, ⟨?_, q, ?_, ?_, ?_⟩, h⟩
  · exact fun ρ' μ' h' σ' H' F' β' st' s' l' => q (.t .non) μ' h' .non H' F' β' st' s' (@rep_non K F' H')
  · exact fun ρ' μ' h' => h'.elim
  · exact fun ρ' μ' h' => h'.elim
  · exact fun er ρ' μ' h' c d σ' H' F' β' st' s' l' r' => e er μ' h' c d H' F' β' st' s' r'
end

/-! ### the part of the store that a call sees -/
def ddp : List Nat → List Nat
  | [] => []
  | i :: r => i :: (ddp r).filter fun j => decide (j ≠ i)
theorem ddp_nd : ∀ l : List Nat, (ddp l).Nodup
  | [] => List.nodup_nil
  | i :: r => List.nodup_cons.mpr ⟨fun h => by simp [List.mem_filter] at h, (ddp_nd r).sublist List.filter_sublist⟩
theorem ddp_mem {i : Nat} : ∀ {l : List Nat}, i ∈ l → i ∈ ddp l
  | j :: r, h => by
    by_cases e : i = j
    · rw [e]; exact List.mem_cons_self
    · rcases List.mem_cons.mp h with z | z
      · exact absurd z e
      · exact List.mem_cons_of_mem _ (List.mem_filter.mpr ⟨ddp_mem z, decide_eq_true e⟩)
def rOf : D → Option Nat
  | .r i => some i
  | .t _ => none
def refs (ds : List D) : List Nat := ddp (ds.filterMap rOf)
def ren (ids : List Nat) : D → D
  | .t x => .t x
  | .r i => .r (ids.idxOf i)
def purM : MO → Bool
  | .lst ds => (unT ds).isSome
  | .tup ds => (unT ds).isSome
  | .dk _ ds => (unT ds).isSome
  | .dt _ ds => (unT ds).isSome
  | .ins _ _ ds => (unT ds).isSome
  | .dead => true
def sub (μ : Mu) : List Nat → Option Mu
  | [] => some []
  | i :: r => match μ[i]? with
    | some m => if purM m = true then (sub μ r).map (m :: ·) else none
    | none => none
def put (μ : Mu) : List Nat → Mu → Mu
  | i :: is, m :: ms => put (μ.set i m) is ms
  | _, _ => μ
def allP : Mu → Bool
  | [] => true
  | m :: r => purM m && allP r
/-- behind a call: the seen things as they are now; a new one that is given back -/
def back (μ : Mu) (ids : List Nat) (Q : D → Mu → Prop) : D → Mu → Prop := fun d μ' => ids.length ≤ μ'.length ∧ allP (μ'.take ids.length) = true ∧
  ((∃ t, d = .t t ∧ Q (.t t) (put μ ids (μ'.take ids.length))) ∨ (∃ j i, d = .r j ∧ ids[j]? = some i ∧ Q (.r i) (put μ ids (μ'.take ids.length))) ∨
    (∃ j m, d = .r j ∧ ids.length ≤ j ∧ μ'[j]? = some m ∧ purM m = true ∧ Q (.r μ.length) (put μ ids (μ'.take ids.length) ++ [m])))
def backE (μ : Mu) (ids : List Nat) (E : EK) : EK := fun e μ' => ids.length ≤ μ'.length ∧ allP (μ'.take ids.length) = true ∧ E e (put μ ids (μ'.take ids.length))
def wCall (n : Nat) (w : WFn) (dts : List T) (wa : WAr) : WEx := fun ρ μ Q E => wa ρ μ (fun ds μ1 => ds.length + dts.length = n ∧ ∃ μs, sub μ1 (refs ds) = some μs ∧ w (ds.map (ren (refs ds)) ++ dts.map .t) μs (back μ1 (refs ds) Q) (backE μ1 (refs ds) E)) E
section
variable {K : PySem.W.Frag} {F F' : Fz} {β β' : List Addr} {H H' : Hp} {μ μ' : Mu}
theorem put_len : ∀ (ids : List Nat) (ms : Mu) (μ : Mu), (put μ ids ms).length = μ.length
  | [], ms, μ => by cases ms <;> rfl
  | i :: is, [], μ => rfl
  | i :: is, m :: ms, μ => by show (put (μ.set i m) is ms).length = _; rw [put_len is ms]; simp
theorem put_out : ∀ (ids : List Nat) (ms : Mu) (μ : Mu) (j : Nat), j ∉ ids → (put μ ids ms)[j]? = μ[j]?
  | [], ms, μ, j, _ => by cases ms <;> rfl
  | i :: is, [], μ, j, _ => rfl
  | i :: is, m :: ms, μ, j, h => by
    show (put (μ.set i m) is ms)[j]? = _
    rw [put_out is ms _ j fun z => h (List.mem_cons_of_mem _ z), List.getElem?_set_ne fun e => h (by rw [e]; exact List.mem_cons_self)]
theorem put_in : ∀ (ids : List Nat) (ms : Mu) (μ : Mu) (k j : Nat), ids.Nodup → ids.length = ms.length → ids[k]? = some j → j < μ.length → (put μ ids ms)[j]? = ms[k]?
  | [], ms, μ, k, j, _, _, h, _ => by simp at h
  | i :: is, [], μ, k, j, _, h, _, _ => by cases h
  | i :: is, m :: ms, μ, 0, j, nd, _, h, hl => by
    simp at h
    subst h
    show (put (μ.set i m) is ms)[i]? = _
    rw [put_out is ms _ i (List.nodup_cons.mp nd).1, List.getElem?_set_self hl]
    rfl
  | i :: is, m :: ms, μ, k + 1, j, nd, hl, h, hj => by
    show (put (μ.set i m) is ms)[j]? = ms[k]?
    exact put_in is ms _ k j (List.nodup_cons.mp nd).2 (by simpa using hl) (by simpa using h) (by simpa using hj)
theorem sub_get : ∀ {ids : List Nat} {μs : Mu}, sub μ ids = some μs → ids.length = μs.length ∧ ∀ (k : Nat) i, ids[k]? = some i → ∃ m, μ[i]? = some m ∧ μs[k]? = some m ∧ purM m = true
  | [], μs, h => by cases h; exact ⟨rfl, fun k i e => by simp at e⟩
  | i :: r, μs, h => by
    unfold sub at h
    cases em : μ[i]? with
    | none => rw [em] at h; cases h
    | some m =>
      rw [em] at h
      have h' : (if purM m = true then (sub μ r).map (m :: ·) else none) = some μs := h
      by_cases hp : purM m = true
      · rw [if_pos hp] at h'
        obtain ⟨l, e1, rfl⟩ := map_some h'
        obtain ⟨hl, hg⟩ := sub_get e1
        refine ⟨by simp [hl], fun k j e => ?_⟩
        cases k with
        | zero => simp at e; subst e; exact ⟨m, em, rfl, hp⟩
        | succ k => exact hg k j (by simpa using e)
      · rw [if_neg hp] at h'; cases h'
theorem pur_map {ds : List D} (h : (unT ds).isSome = true) : ∃ l : List T, ds = l.map .t := by
  obtain ⟨l, e⟩ := Option.isSome_iff_exists.mp h
  exact ⟨l, unT_map e⟩
/-- a thing of trees alone does not lean on the store -/
theorem MOk.pure {a : Addr} {m : MO} (hp : purM m = true) (h : MOk K F β H a m) (β2 : List Addr) : MOk K F β2 H a m := by
  have key : ∀ {ds : List D} {xs : List V}, (unT ds).isSome = true → RepDs K F β H ds xs → RepDs K F β2 H ds xs := fun hp r => by
    obtain ⟨l, rfl⟩ := pur_map hp
    exact .ofL r.toL
  match m, hp, h with
  | .lst ds, hp, h => obtain ⟨n, xs, e, r⟩ := h; exact ⟨n, xs, e, key hp r⟩
  | .tup ds, hp, h => obtain ⟨xs, e, r⟩ := h; exact ⟨xs, e, key hp r⟩
  | .dk ks ds, hp, h => obtain ⟨n, xs, e, z, r⟩ := h; exact ⟨n, xs, e, z, key hp r⟩
  | .dt ks ds, hp, h => obtain ⟨n, xs, e, z, r⟩ := h; exact ⟨n, xs, e, z, key hp r⟩
  | .ins C ns ds, hp, h => obtain ⟨n, dx, xs, e, z, r⟩ := h; exact ⟨n, dx, xs, e, z, key hp r⟩
  | .dead, hp, h => trivial
/-- the addresses of the seen things -/
def badr (β : List Addr) (ids : List Nat) : List Addr := ids.filterMap fun i => β[i]?
theorem badr_get : ∀ {ids : List Nat}, (∀ i ∈ ids, i < β.length) → ∀ (k : Nat), (badr β ids)[k]? = (ids[k]?).bind fun i => β[i]?
  | [], _, k => by simp [badr]
  | i :: r, h, k => by
    have hi := h i List.mem_cons_self
    have e : badr β (i :: r) = β[i] :: badr β r := by unfold badr; rw [List.filterMap_cons]; simp [hi]
    rw [e]
    cases k with
    | zero => simp [hi]
    | succ k => simpa using badr_get (fun j hj => h j (List.mem_cons_of_mem _ hj)) k
theorem allP_get : ∀ {ms : Mu}, allP ms = true → ∀ {k : Nat} {m : MO}, ms[k]? = some m → purM m = true
  | [], _, k, m, e => by simp at e
  | m0 :: r, h, k, m, e => by
    obtain ⟨h1, h2⟩ := Bool.and_eq_true_iff.mp (show (purM m0 && allP r) = true from h)
    cases k with
    | zero => simp at e; subst e; exact h1
    | succ k => exact allP_get h2 (by simpa using e)
structure Sees (β : List Addr) (ids : List Nat) (βs : List Addr) : Prop where
  len : βs.length = ids.length
  get : ∀ (k : Nat) i, ids[k]? = some i → βs[k]? = β[i]?
  lt : ∀ i ∈ ids, i < β.length
  nd : ids.Nodup
theorem sub_sto (s : Sto K F β H μ) {ids : List Nat} {μs : Mu} (nd : ids.Nodup) (h : sub μ ids = some μs) : Sto K F (badr β ids) H μs ∧ Sees β ids (badr β ids) := by
  obtain ⟨hl, hg⟩ := sub_get h
  have hlt : ∀ i ∈ ids, i < β.length := fun i hi => by
    obtain ⟨k, hk⟩ := List.getElem?_of_mem hi
    obtain ⟨m, e, _⟩ := hg k i hk
    rw [s.len]; exact (List.getElem?_eq_some_iff.mp e).1
  have gb := badr_get (β := β) hlt
  have ln : (badr β ids).length = ids.length := by
    have aux : ∀ (l : List Nat), (∀ i ∈ l, i < β.length) → (badr β l).length = l.length := by
      intro l
      induction l with
      | nil => intro _; rfl
      | cons i r ih =>
        intro h
        have hi := h i List.mem_cons_self
        have e : badr β (i :: r) = β[i] :: badr β r := by unfold badr; rw [List.filterMap_cons]; simp [hi]
        rw [e]
        simp [ih fun j hj => h j (List.mem_cons_of_mem _ hj)]
    exact aux ids hlt
  have sees : Sees β ids (badr β ids) := ⟨ln, fun k i e => by rw [gb, e]; rfl, hlt, nd⟩
  refine ⟨⟨by rw [ln, hl], ?_, fun k a m e1 e2 => ?_, s.ftr, fun a ha => ?_⟩, sees⟩
  · have aux : ∀ (l : List Nat), l.Nodup → (∀ i ∈ l, i < β.length) → (badr β l).Nodup := by
      intro l
      induction l with
      | nil => intro _ _; exact List.nodup_nil
      | cons i r ih =>
        intro n h
        have hi := h i List.mem_cons_self
        have e : badr β (i :: r) = β[i] :: badr β r := by unfold badr; rw [List.filterMap_cons]; simp [hi]
        rw [e]
        refine List.nodup_cons.mpr ⟨fun hm => ?_, ih (List.nodup_cons.mp n).2 fun j hj => h j (List.mem_cons_of_mem _ hj)⟩
        obtain ⟨j, hj, ej⟩ := List.mem_filterMap.mp hm
        obtain ⟨l1, q1⟩ := List.getElem?_eq_some_iff.mp ej
        have := (List.getElem_inj s.nd).mp q1
        exact (List.nodup_cons.mp n).1 (by rw [← this]; exact hj)
    exact aux ids nd hlt
  · rw [gb] at e1
    cases ei : ids[k]? with
    | none => rw [ei] at e1; cases e1
    | some i =>
      rw [ei] at e1
      obtain ⟨m', q1, q2, q3⟩ := hg k i ei
      rw [e2] at q2
      cases q2
      exact (s.ok i a m e1 q1).pure q3 _
  · obtain ⟨i, _, e⟩ := List.mem_filterMap.mp ha
    exact s.btr a (List.mem_of_getElem? e)
theorem refs_nd (ds : List D) : (refs ds).Nodup := ddp_nd _
theorem ren_rep {ds : List D} {vs : List V} {ids : List Nat} (hm : ∀ i, D.r i ∈ ds → i ∈ ids) {βs : List Addr} (z : Sees β ids βs) (r : RepDs K F β H ds vs) : RepDs K F βs H (ds.map (ren ids)) vs := by
  induction ds generalizing vs with
  | nil => exact r
  | cons d ds ih =>
    obtain ⟨x, xr, rfl, r1, r2⟩ := r
    refine ⟨x, xr, rfl, ?_, ih (fun i hi => hm i (List.mem_cons_of_mem _ hi)) r2⟩
    cases d with
    | t y => exact r1
    | r i =>
      obtain ⟨a, e, rfl⟩ := r1
      have hi := hm i List.mem_cons_self
      have hk : ids.idxOf i < ids.length := List.idxOf_lt_length_iff.mpr hi
      refine ⟨a, ?_, rfl⟩
      rw [z.get (ids.idxOf i) i (by rw [List.getElem?_eq_getElem hk, List.getElem_idxOf hk]), e]
theorem refs_mem {ds : List D} : ∀ i, D.r i ∈ ds → i ∈ refs ds := fun i hi => ddp_mem (List.mem_filterMap.mpr ⟨.r i, hi, rfl⟩)
/-- behind a call, for the caller -/
theorem back_stp (s : Sto K F β H μ) {ids : List Nat} {βs βs' : List Addr} (z : Sees β ids βs) (hsub : ∀ a ∈ βs, a ∈ β) (st : Stp F βs H F' βs' H') : Stp F β H F' β H' :=
  ⟨st.f, st.h, st.t, List.prefix_refl _, fun a o h n nf => st.k a o h (fun y => n (hsub a y)) nf, fun a h => .inl h, fun a h => (st.g a h).elim .inl fun y => y.elim (fun x => .inr (.inl (hsub a x))) fun x => .inr (.inr x), st.s⟩
theorem back_sto (s : Sto K F β H μ) {ids : List Nat} {βs βs' : List Addr} {μ' : Mu} (z : Sees β ids βs) (hsub : ∀ a ∈ βs, a ∈ β) (st : Stp F βs H F' βs' H') (s' : Sto K F' βs' H' μ') (hl : ids.length ≤ μ'.length) (hp : allP (μ'.take ids.length) = true) :
    Sto K F' β H' (put μ ids (μ'.take ids.length)) := by
  have st' := back_stp s z hsub st
  have hlen : ids.length = (μ'.take ids.length).length := by rw [List.length_take]; omega
  refine ⟨by rw [put_len, s.len], s.nd, fun i a m e1 e2 => ?_, s'.ftr, fun a h => st'.s a (s.btr a h)⟩
  by_cases hi : i ∈ ids
  · obtain ⟨k, hk⟩ := List.getElem?_of_mem hi
    have hkl := (List.getElem?_eq_some_iff.mp hk).1
    rw [put_in ids _ μ k i z.nd hlen hk (by rw [← s.len]; exact z.lt i hi)] at e2
    have e3 : μ'[k]? = some m := by rw [List.getElem?_take_of_lt hkl] at e2; exact e2
    have e4 : βs'[k]? = some a := by
      obtain ⟨l, rfl⟩ := st.b
      rw [List.getElem?_append_left (by rw [z.len]; exact hkl), z.get k i hk, e1]
    exact (s'.ok k a m e4 e3).pure (allP_get hp e2) _
  · rw [put_out ids _ μ i hi] at e2
    have ok := s.ok i a m e1 e2
    have na : a ∉ βs := fun y => by
      obtain ⟨k, hk⟩ := List.getElem?_of_mem y
      have hkl : k < ids.length := by rw [← z.len]; exact (List.getElem?_eq_some_iff.mp hk).1
      have ei := List.getElem?_eq_getElem hkl
      have q := z.get k _ ei
      rw [hk] at q
      obtain ⟨l1, q1⟩ := List.getElem?_eq_some_iff.mp e1
      obtain ⟨l2, q2⟩ := List.getElem?_eq_some_iff.mp q.symm
      have := (List.getElem_inj s.nd).mp (q1.trans q2.symm)
      exact hi (by rw [this]; exact List.getElem_mem hkl)
    have ta := s.btr a (List.mem_of_getElem? e1)
    have nf : ¬ F a → ¬ F' a := fun n y => by
      rcases st.g a y with x | x | x
      · exact n x
      · exact na x
      · exact ta x
    match m, ok with
    | .lst ds, ok => obtain ⟨n, xs, e, r⟩ := ok; exact ⟨nf n, xs, st.k a _ e na n, r.stp st'⟩
    | .tup ds, ok => obtain ⟨xs, e, r⟩ := ok; exact ⟨xs, st.t a _ e, r.stp st'⟩
    | .dk ks ds, ok => obtain ⟨n, xs, e, y, r⟩ := ok; exact ⟨nf n, xs, st.k a _ e na n, y, r.stp st'⟩
    | .dt ks ds, ok => obtain ⟨n, xs, e, y, r⟩ := ok; exact ⟨nf n, xs, st.k a _ e na n, y, r.stp st'⟩
    | .ins C ns ds, ok => obtain ⟨n, dx, xs, e, y, r⟩ := ok; exact ⟨nf n, dx, xs, st.k a _ e na n, y, r.stp st'⟩
    | .dead, ok => trivial
/-- a new thing comes in from a call -/
theorem back_new (s : Sto K F β H μ) {F' : Fz} {H' : Hp} (st : Stp F β H F' β H') (s' : Sto K F' β H' μ') {a : Addr} {m : MO} {β2 : List Addr} (ha : H a = none) (ta : H' a ≠ none) (hm : MOk K F' β2 H' a m) (hp : purM m = true) :
    Stp F β H F' (β ++ [a]) H' ∧ Sto K F' (β ++ [a]) H' (μ' ++ [m]) := by
  have na : a ∉ β := fun y => s.btr a y ha
  have mo : Mon F' β H' F' (β ++ [a]) H' := ⟨fun _ h => h, fun _ _ => rfl, fun _ _ h => h, List.prefix_append _ _⟩
  refine ⟨⟨st.f, st.h, st.t, List.prefix_append _ _, st.k, fun b h => (List.mem_append.mp h).elim .inl fun e => .inr (by rw [List.mem_singleton.mp e]; exact ha), st.g, st.s⟩, by simp [s'.len], ?_, fun i b mo' e1 e2 => ?_, s'.ftr, fun b h => (List.mem_append.mp h).elim (s'.btr b) fun e => by rw [List.mem_singleton.mp e]; exact ta⟩
  · exact List.nodup_append.mpr ⟨s'.nd, by simp, fun x hx y hy e => na (by rw [List.mem_singleton.mp hy] at e; rw [← e]; exact hx)⟩
  · by_cases hi : i < β.length
    · rw [List.getElem?_append_left hi] at e1
      rw [List.getElem?_append_left (by rw [← s'.len]; exact hi)] at e2
      have ok := s'.ok i b mo' e1 e2
      match mo', ok with
      | .lst ds, ok => obtain ⟨n, xs, e, r⟩ := ok; exact ⟨n, xs, e, r.mon mo⟩
      | .tup ds, ok => obtain ⟨xs, e, r⟩ := ok; exact ⟨xs, e, r.mon mo⟩
      | .dk ks ds, ok => obtain ⟨n, xs, e, y, r⟩ := ok; exact ⟨n, xs, e, y, r.mon mo⟩
      | .dt ks ds, ok => obtain ⟨n, xs, e, y, r⟩ := ok; exact ⟨n, xs, e, y, r.mon mo⟩
      | .ins C ns ds, ok => obtain ⟨n, dx, xs, e, y, r⟩ := ok; exact ⟨n, dx, xs, e, y, r.mon mo⟩
      | .dead, ok => trivial
    · have e : i = β.length := by
        have := (List.getElem?_eq_some_iff.mp e1).1
        simp at this; omega
      subst e
      rw [List.getElem?_append_right (Nat.le_refl _)] at e1
      rw [List.getElem?_append_right (by rw [s'.len]; exact Nat.le_refl _)] at e2
      simp at e1
      rw [show β.length - μ'.length = 0 by rw [s'.len]; omega] at e2
      simp at e2
      subst e1 e2
      exact hm.pure hp _
end
section
variable {X : Cx} {W : WX}
/-- a promise by trees, of the seen part, as the caller sees it -/
theorem call_red {K : PySem.W.Frag} {n : Nat} {w : WFn} {F : Fz} {β : List Addr} {H : Hp} {μ μs : Mu} {ds : List D} {vs dvs : List V} {dts : List T} {Q : VK} {E : XK} {Qd : D → Mu → Prop} {Ed : EK} {σ : L2.St} (hn : ds.length + dts.length = n) (hd : ∀ F H, RepL K F H dts dvs)
    (s : Sto K F β H μ) (r : RepDs K F β H ds vs) (q : QOk K F β H Qd Q) (o : EOk K W F β H σ Ed) (hE : ∀ c d H', W c d σ H' → E c d H') (hs : sub μ (refs ds) = some μs) (h : w (ds.map (ren (refs ds)) ++ dts.map .t) μs (back μ (refs ds) Qd) (backE μ (refs ds) Ed)) : spZ K n w (vs ++ dvs) H Q E := by
  obtain ⟨ss, z⟩ := sub_sto s (refs_nd ds) hs
  have hsub : ∀ a ∈ badr β (refs ds), a ∈ β := fun a ha => by
    obtain ⟨i, _, e⟩ := List.mem_filterMap.mp ha
    exact List.mem_of_getElem? e
  refine ⟨F, badr β (refs ds), _, μs, _, _, by simp [hn], ss, (ren_rep refs_mem z r).append (.ofL (hd F H)), ?_, ?_, h⟩
  · rintro d μ' ⟨hl, hp, h'⟩ v H' F' βs' st s' r'
    have st1 := back_stp s z hsub st
    have s1 := back_sto s z hsub st s' hl hp
    rcases h' with ⟨t, rfl, q'⟩ | ⟨j, i, rfl, ei, q'⟩ | ⟨j, m, rfl, hj, em, pm, q'⟩
    · exact q _ _ q' v H' F' β st1 s1 r'
    · obtain ⟨a, ea, rfl⟩ := r'
      have hjl := (List.getElem?_eq_some_iff.mp ei).1
      obtain ⟨l, rfl⟩ := st.b
      rw [List.getElem?_append_left (by rw [z.len]; exact hjl), z.get j i ei] at ea
      exact q _ _ q' _ H' F' β st1 s1 ⟨a, ea, rfl⟩
    · obtain ⟨a, ea, rfl⟩ := r'
      have ha : H a = none := by
        rcases st.n a (List.mem_of_getElem? ea) with y | y
        · exfalso
          obtain ⟨k, hk⟩ := List.getElem?_of_mem y
          have hkl := (List.getElem?_eq_some_iff.mp hk).1
          have hk' : βs'[k]? = some a := by
            obtain ⟨l, rfl⟩ := st.b
            rw [List.getElem?_append_left hkl]; exact hk
          obtain ⟨l1, q1⟩ := List.getElem?_eq_some_iff.mp ea
          obtain ⟨l2, q2⟩ := List.getElem?_eq_some_iff.mp hk'
          have := (List.getElem_inj s'.nd).mp (q1.trans q2.symm)
          rw [z.len] at hkl
          omega
        · exact y
      obtain ⟨st2, s2⟩ := back_new s st1 s1 ha (s'.btr a (List.mem_of_getElem? ea)) (s'.ok j a m ea em) pm
      exact q _ _ q' _ H' F' _ st2 s2 ⟨a, by rw [← s.len]; simp, rfl⟩
  · rintro e μ' ⟨hl, hp, h'⟩ c d H' F' βs' st s' r'
    exact hE c d H' (o e _ h' c d H' F' β (back_stp s z hsub st) (back_sto s z hsub st s' hl hp) r')
/-- f(e, ..): a def of the module; dts its defaults that fill up -/
theorem ze_call {w : WFn} {dts : List T} {dvs : List V} {dsv : List Value} {k : Nat} {f : Addr} {fd : FuncData} {ps : List Str} {x : Str} {p pos : Pos} {e : Expr} {es : List Expr} {wa : WAr}
    (Fo : FnOk X.prog X.w X.K X.mg X.base (L2.CX X.prog X.w) k f fd ps (spZ X.K ps.length w)) (hr : Room k X.A) (hm : X.mg x = some (.ref f)) (hk : PySem.W.keepIn X.K (.ref f) = true) (hb : Binds X.K fd ps dsv) (hd : Vals dvs dsv) (hdt : ∀ F H, RepL X.K F H dts dvs) (tk : Takes X W)
    (ha : ZA X W (e :: es) wa) (hg : Gl X x := by rfl) (hdb : (x == ("__debug__" : Str)) = false := by decide)
    (he : starEach (e :: es) X.env = (false, eval e X.env) :: starEach es X.env := by rfl) (hpl : (backTo pos (starEach es X.env)).any (·.1) = false := by rfl) :
    ZE X W (.Call (.Name x p) (e :: es) [] pos) (wCall ps.length w dts wa) :=
  ⟨PE.imp (pe_callSD Fo hr hg hm hk hb hd (fun σ => passAt tk σ) ha.pa hdb he hpl) fun σ H Q ⟨F, β, ρ, μ, Qd, Ed, s, l, q, o, w'⟩ => ⟨F, β, ρ, μ, _, Ed, s, l, fun ds μ1 ⟨h0, μs, h1, h2⟩ vs H' F' β' st s' r' =>
    call_red (n := ps.length) (E := WE W σ) h0 hdt s' r' (q.stp st) (o.stp st) (fun _ _ _ h => h) h1 h2, o, w'⟩⟩
theorem ze_call0 {w : WFn} {dts : List T} {dvs : List V} {dsv : List Value} {k : Nat} {f : Addr} {fd : FuncData} {ps : List Str} {x : Str} {p pos : Pos}
    (Fo : FnOk X.prog X.w X.K X.mg X.base (L2.CX X.prog X.w) k f fd ps (spZ X.K ps.length w)) (hr : Room k X.A) (hm : X.mg x = some (.ref f)) (hk : PySem.W.keepIn X.K (.ref f) = true) (hb : Binds X.K fd ps dsv) (hd : Vals dvs dsv) (hdt : ∀ F H, RepL X.K F H dts dvs) (tk : Takes X (fun _ _ _ _ => False))
    (hg : Gl X x := by rfl) (hdb : (x == ("__debug__" : Str)) = false := by decide) :
    ZE X W0 (.Call (.Name x p) [] [] pos) (wCall ps.length w dts wNil) :=
  ⟨PE.imp (pe_call0 Fo hr hg hm hk hb hd (E := fun _ _ _ => False) (passes_call tk fun _ _ _ _ h => h) hdb) fun σ H Q ⟨F, β, ρ, μ, Qd, Ed, s, l, q, o, h0, μs, h1, h2⟩ =>
    call_red (W := W0) (n := ps.length) (σ := σ) (E := fun _ _ _ => False) (vs := []) (ds := []) h0 hdt s rfl q o (fun _ _ _ h => h) h1 h2⟩
end
end Zy
set_option Elab.async false
set_option linter.all false
set_option maxRecDepth 100000
set_option maxHeartbeats 400000
/-! Z6: what is walked: lists, tuples and texts in any mix, alone, by enumerate, by zip of two and of three; range. -/
namespace Zy
open PySem PySem.Spec PyProof.Rows L2

/-- what can be walked item by item -/
inductive Kd where
  | lst (a : Addr) | tup (a : Addr) | txt (x : Str) (t : Tok)
def Kd.has (K : PySem.W.Frag) (H : Hp) : Kd → List V → Prop
  | .lst a, xs => SqL K H a xs
  | .tup a, xs => SqT K H a xs
  | .txt x _, xs => xs = x.cps.toList.map fun c => V.str ⟨#[c]⟩
def Kd.val : Kd → Value
  | .lst a => .ref a
  | .tup a => .ref a
  | .txt x t => .str x t
/-- the iterator it stands at item i -/
def Kd.at_ (it : Addr) (i : Nat) (h : Heap) : Kd → Prop
  | .lst a => h.IsListIter it a i
  | .tup a => h.IsTupleIter it a i
  | .txt x t => h.IsStrIter it (strIterType x) x t i
/-- what it draws from, in the heap -/
def Kd.inH (h : Heap) (us : Array Value) : Kd → Prop
  | .lst a => h.IsList a us
  | .tup a => h.IsTuple a us
  | .txt _ _ => True
def Kd.base : Kd → List Addr
  | .lst a => [a]
  | .tup a => [a]
  | .txt _ _ => []
def Kd.obj : Kd → Obj
  | .lst a => { cls := .type "list_iterator", data := .fields #[.ref a, .int 0 0] }
  | .tup a => { cls := .type "tuple_iterator", data := .fields #[.ref a, .int 0 0] }
  | .txt x t => { cls := .type (strIterType x), data := .fields #[.str x t, .int 0 0] }
theorem Kd.begins (kd : Kd) (us : Array Value) : Begins kd.val kd.obj fun h => kd.inH h us := by
  cases kd with
  | lst a => exact begins_list a us
  | tup a => exact begins_tuple a us
  | txt x t => exact begins_text x t
theorem Kd.at0 (kd : Kd) {h : Heap} {it : Addr} (e : h.get? it = some kd.obj) : kd.at_ it 0 h := by
  cases kd with
  | lst a => exact ⟨_, e, rfl, rfl⟩
  | tup a => exact ⟨_, e, rfl, rfl⟩
  | txt x t => exact ⟨_, e, rfl, rfl⟩
theorem Kd.at_keep (kd : Kd) {h h' : Heap} {it : Addr} {i : Nat} (k : ∀ o, h.get? it = some o → h'.get? it = some o) (s : kd.at_ it i h) : kd.at_ it i h' := by
  cases kd with
  | lst a => exact Heap.IsListIter.at (h := h) s k
  | tup a => exact Heap.IsTupleIter.at (h := h) s k
  | txt x t => obtain ⟨o, e, c, d⟩ := s; exact ⟨o, k o e, c, d⟩
theorem Kd.live (kd : Kd) {h : Heap} {it : Addr} {i : Nat} (s : kd.at_ it i h) : ∃ o, h.get? it = some o ∧ ∀ v, o.data ≠ .cell v := by
  cases kd with
  | lst a => obtain ⟨o, e, _, d⟩ := s; exact ⟨o, e, fun v z => by rw [d] at z; cases z⟩
  | tup a => obtain ⟨o, e, _, d⟩ := s; exact ⟨o, e, fun v z => by rw [d] at z; cases z⟩
  | txt x t => obtain ⟨o, e, _, d⟩ := s; exact ⟨o, e, fun v z => by rw [d] at z; cases z⟩
/-- the draws, the values by what they are -/
theorem Kd.draws {P : Program} {w : World} {A : Around} (hh : A.handled = none) (kd : Kd) (it : Addr) (hne : ∀ b ∈ kd.base, b ≠ it) (us : Array Value) (xs : List V) (r : ∀ a, kd = .lst a ∨ kd = .tup a → Vals xs us.toList) (rt : ∀ x t, kd = .txt x t → xs = x.cps.toList.map fun c => V.str ⟨#[c]⟩) :
    Draws P w A it (it :: kd.base) xs.length (fun i u => ∃ x, xs[i]? = some x ∧ RelV x u) (fun i h => kd.at_ it i h ∧ kd.inH h us) := by
  cases kd with
  | lst a =>
    have rv := r a (.inl rfl)
    have hl : us.size = xs.length := by have := rv.length; simp at this; omega
    have D := Draws.list (prog := P) (w := w) hh it a (hne a (by simp [Kd.base])) us
    rw [hl] at D
    refine ⟨fun i h st => D.live i h st, fun i h h' st k => D.frame i h h' st k, fun i s Q E hi st q => D.item i s Q E hi st fun u h' tk hu st' sb => q u h' tk ?_ st' sb, D.done⟩
    have hu' : us[i]? = some u := hu
    have hi' : i < xs.length := hi
    obtain ⟨u', e1, e2⟩ := rv.get (i := i) (x := xs[i]) (by simp [hi'])
    rw [Array.getElem?_toList, hu'] at e1
    cases e1
    exact ⟨xs[i], by simp [hi'], e2⟩
  | tup a =>
    have rv := r a (.inr rfl)
    have hl : us.size = xs.length := by have := rv.length; simp at this; omega
    have D := Draws.tuple (prog := P) (w := w) hh it a (hne a (by simp [Kd.base])) us
    rw [hl] at D
    refine ⟨fun i h st => D.live i h st, fun i h h' st k => D.frame i h h' st k, fun i s Q E hi st q => D.item i s Q E hi st fun u h' tk hu st' sb => q u h' tk ?_ st' sb, D.done⟩
    have hu' : us[i]? = some u := hu
    have hi' : i < xs.length := hi
    obtain ⟨u', e1, e2⟩ := rv.get (i := i) (x := xs[i]) (by simp [hi'])
    rw [Array.getElem?_toList, hu'] at e1
    cases e1
    exact ⟨xs[i], by simp [hi'], e2⟩
  | txt x t =>
    have e := rt x t rfl
    have hl : x.cps.size = xs.length := by rw [e]; simp
    have D := Draws.text (prog := P) (w := w) hh it x t
    rw [hl] at D
    refine ⟨fun i h st => D.live i h st.1, fun i h h' st k => ⟨D.frame i h h' st.1 fun b hb => k b (by rw [List.mem_singleton.mp hb]; exact List.mem_cons_self), trivial⟩, fun i s Q E hi st q => D.item i s Q E hi st.1 fun u h' tk hu st' sb => q u h' tk ?_ ⟨st', trivial⟩ sb, fun s Q E st q => D.done s Q E st.1 q⟩
    obtain ⟨c, tk', hc, rfl⟩ := hu
    refine ⟨.str ⟨#[c]⟩, ?_, tk', rfl⟩
    rw [e, List.getElem?_map, Array.getElem?_toList, hc]
    rfl
section
variable {X : Cx} {pins : List (Addr × Obj)} {σ : L2.St} {H : Hp} {s : Shared}
theorem Kd.read (I : Inv X pins σ H s) (kd : Kd) {xs : List V} (h : kd.has X.K H xs) : ∃ us : Array Value, kd.inH s.heap us ∧ (∀ a, kd = .lst a ∨ kd = .tup a → Vals xs us.toList) ∧ (∀ x t, kd = .txt x t → xs = x.cps.toList.map fun c => V.str ⟨#[c]⟩) ∧ ∀ b ∈ kd.base, b < s.heap.objs.size := by
  cases kd with
  | lst a =>
    obtain ⟨us, r, p, _⟩ := I.list h
    exact ⟨us.toArray, p.isList, fun _ _ => by simpa using r, fun _ _ z => (nomatch z), fun b hb => by rw [List.mem_singleton.mp (show b ∈ [a] from hb)]; exact p.lt⟩
  | tup a =>
    obtain ⟨us, r, p, _⟩ := I.tuple h
    exact ⟨us.toArray, p, fun _ _ => by simpa using r, fun _ _ z => (nomatch z), fun b hb => by rw [List.mem_singleton.mp (show b ∈ [a] from hb)]; exact p.lt⟩
  | txt x t => exact ⟨#[], trivial, fun a z => (by rcases z with z | z <;> cases z), fun x' t' z => by cases z; exact h, fun b hb => nomatch (show b ∈ ([] : List Addr) from hb)⟩
end

/-! ### a walk whose items are new tuples -/
/-- n turns, the i-th item a new tuple of ys i, while hs holds -/
def ItG (hs : Hp → Prop) (n : Nat) (ys : Nat → Option (List V)) : It :=
  ⟨fun i H => hs H ∧ i < n, fun i H v H' => ∃ p yl, v = .ref p ∧ H p = none ∧ H' = upd H p (.tup yl) ∧ ys i = some yl, fun i H => hs H ∧ i = n⟩
theorem turn_g {P : Program} {w : World} {K : PySem.W.Frag} {tg : Expr} {it : Addr} {fp wr : List Addr} {n : Nat} {tn : Nat → Heap → Prop} {hs : Hp → Prop} {ys : Nat → Option (List V)} (mem : it ∈ fp) (sub : ∀ b ∈ wr, b ∈ fp)
    (obj : ∀ i h, tn i h → ∀ b ∈ fp, ∃ o, h.get? b = some o ∧ ∀ v, o.data ≠ .cell v) (keep : ∀ i h h', tn i h → (∀ b ∈ fp, ∀ o, h.get? b = some o → h'.get? b = some o) → tn i h')
    (self : ∀ (A : Around) (i : Nat) (s : Shared) (Q : Value → Shared → Prop) (E : Value → Shared → Prop), tn i s.heap → Q (.ref it) s → wpAny (model P w) A (pyIter (.ref it)) Q E s)
    (W : ∀ (X : Cx), X.prog = P → X.w = w → X.K = K → X.calm = true → ∀ pins (s : Shared) σ H, Inv X pins σ H s → hs H → ∃ fp' St Y, GoesN P w X.A tg it fp' wr n Y St ∧ (∀ i, tn i s.heap → St i s.heap) ∧ (∀ i h, St i h → tn i h) ∧
      (∀ i v h', i < n → Y i s.heap v h' → ∃ p vals yl, v = .ref p ∧ s.heap.objs.size ≤ p ∧ h'.IsTuple p vals ∧ ys i = some yl ∧ Vals yl vals.toList ∧ yl.length ≤ sizeLine)) : Turn P w K tg (ItG hs n ys) fp it tn where
  mem := mem
  obj := obj
  keep := keep
  self := self
  item := by
    intro X hP hw hK hc i pins s σ H E I hf st hg
    obtain ⟨fp', St, Y, G, t1, t2, y⟩ := W X hP hw hK hc pins s σ H I hg.1
    subst hP hw hK
    refine wpAny_mono (G.goes i s (fun u s2 => ∃ x H', Inv X pins σ H' s2 ∧ RelV x u ∧ (ItG hs n ys).yld i H x H' ∧ tn (i + 1) s2.heap ∧ ∀ b ∈ fp, H' b = none) E hg.2 (t1 i st) fun v h' tk hy st' hk _ => ?_) (fun r s1 ⟨v, e, q⟩ => ⟨v, e, q⟩) fun _ _ z => z
    obtain ⟨p, vals, yl, rfl, hp, hT, e, r, z⟩ := y i v h' hg.2 hy
    have new : ObjOk X.prog X.w (upd H p (.tup yl)) h' p (.tup yl) := ⟨z, vals.toList, r, by rw [Array.toArray_toList]; exact hT⟩
    have I1 : Inv X pins σ (upd H p (.tup yl)) { s with heap := h', toks := tk } := I.turnedNew (ch := fp) (fun b o nb eb => hk b o (fun q => nb (sub b q)) eb) hf hp new
    refine ⟨.ref p, _, I1, rfl, ⟨p, yl, rfl, I.hok.fresh hp, rfl, e⟩, t2 _ _ st', fun b hb => ?_⟩
    obtain ⟨o, eo, _⟩ := obj i _ st b hb
    rw [upd_ne (Nat.ne_of_lt (Nat.lt_of_lt_of_le (Heap.lt_size eo) hp))]
    exact (hf b hb).1
  done := by
    intro X hP hw hK hc i pins s σ H E I hf st hg
    obtain ⟨fp', St, Y, G, t1, t2, y⟩ := W X hP hw hK hc pins s σ H I hg.1
    subst hP hw hK
    obtain ⟨_, rfl⟩ := hg
    exact wpAny_mono (G.stops s (fun s1 => Inv X pins σ H s1) E (t1 _ st) fun h' tk hk _ => I.turnedL (ch := fp) (fun b o nb eb => hk b o (fun q => nb (sub b q)) eb) hf) (fun r s1 q => q) fun _ _ z => z

/-! ### enumerate(v) -/
theorem meets_en1 {v : Value} {o : Obj} {B : Heap → Prop} (b : Begins v o B) :
    Meets (Builtin.«enumerate.__new__» ⟨[.type "enumerate", v], []⟩) fun _ R s => B s.heap ∧
      R (.ok (.ret (.ref (s.heap.push o).objs.size))) { s with heap := (s.heap.push o).push { cls := .type "enumerate", data := .fields #[.none, .bool false, .ref s.heap.objs.size, rawInt 0, .none, .none] } } :=
  .of_wp fun prog w A R s h => by
    obtain ⟨hp, g, d, tk, os⟩ := s
    obtain ⟨h1, h⟩ := h
    have se := sub_enumerate
    have go : ∀ {A' : Around} {E Q : Value → Shared → Prop}, Q (.ref hp.objs.size) ⟨hp.push o, g, d, tk, os⟩ → wpAny (model prog w) A' (pyIter v) Q E ⟨hp, g, d, tk, os⟩ := fun q => b.iter prog w _ _ _ _ h1 q
    wp_walk using go
    refine wpAny_stack_any fun stk => wpAny_pure ?_
    split
    · rename_i c _ _ _ _ _
      cases (c == Value.type "enumerate") <;> (wp_walk using go; exact ⟨_, rfl, h⟩)
    · wp_walk using go
      exact ⟨_, rfl, h⟩
theorem en1_begins {P : Program} {w : World} {A : Around} {E : Value → Shared → Prop} {s : Shared} {v : Value} {o : Obj} {B : Heap → Prop} {Q : Value → Shared → Prop} (b : Begins v o B) (h1 : B s.heap)
    (h : ∀ h', IsEnum h' (s.heap.objs.size + 1) s.heap.objs.size 0 .none → h'.get? s.heap.objs.size = some o → (∀ b o, s.heap.get? b = some o → h'.get? b = some o) → Q (.ref (s.heap.objs.size + 1)) { s with heap := h' }) :
    wpAny (model P w) A (call (.type "enumerate") [v]) Q E s := by
  refine callType_new F.called_enumerate (by decide) (F.typeCall_enumerate_1 _) (F.newCall_enumerate_1 _) (fun obj => F.args_object_init_2 obj _) F.entry_enumerate_new (meets_en1 b) ⟨h1, ?_⟩
  have hz : (s.heap.push o).objs.size = s.heap.objs.size + 1 := Heap.size_push ..
  show _ ∧ _
  rw [hz]
  have he : IsEnum ((s.heap.push o).push { cls := .type "enumerate", data := .fields #[.none, .bool false, .ref s.heap.objs.size, rawInt 0, .none, .none] }) (s.heap.objs.size + 1) s.heap.objs.size 0 .none := by
    have q := Heap.get?_push_size (s.heap.push o) (o := { cls := .type "enumerate", data := .fields #[.none, .bool false, .ref s.heap.objs.size, rawInt 0, .none, .none] }) rfl
    rw [hz] at q
    exact q
  exact ⟨⟨_, he, rfl⟩, h _ he (Heap.get?_push_of_some _ (Heap.get?_push_size _ b.free)) fun b o x => Heap.get?_push_of_some _ (Heap.get?_push_of_some _ x)⟩
def enY (xs : List V) (i : Nat) : Option (List V) := (xs[i]?).map fun x => [.int (i : Nat), x]
theorem turn_en {P : Program} {w : World} {K : PySem.W.Frag} {elts : List Expr} {kk : Nat} {tpos : Pos} (kd : Kd) (xs : List V) (e it : Addr) (hei : e ≠ it) (hb : ∀ b ∈ kd.base, b ≠ it ∧ b ≠ e) :
    Turn P w K (.Tuple elts kk tpos) (ItG (fun H => kd.has K H xs) xs.length (enY xs)) [e, it] e (fun i h => (∃ old, IsEnum h e it (i : Int) old) ∧ kd.at_ it i h) := by
  refine turn_g (wr := [e, it]) (by simp) (fun b h => h) (fun i h st b hb => ?_) (fun i h h' st k => ?_) (fun A i s Q E st q => ?_) (fun X hP hw hK hc pins s σ H I hs => ?_)
  · obtain ⟨⟨old, he⟩, hi⟩ := st
    rcases (by simpa using hb : b = e ∨ b = it) with rfl | rfl
    · exact ⟨_, he, fun v q => nomatch q⟩
    · exact kd.live hi
  · obtain ⟨⟨old, he⟩, hi⟩ := st
    exact ⟨⟨old, k e (by simp) _ he⟩, kd.at_keep (fun o q => k it (by simp) o q) hi⟩
  · obtain ⟨⟨old, he⟩, _⟩ := st
    exact wpAny_pyIter_enum he q
  · subst hP hw hK
    obtain ⟨us, q1, q2, q3, _⟩ := kd.read I hs
    have D := kd.draws (P := X.prog) (w := X.w) (A := X.A.in1) (I.ok.hd hc) it (fun b h => (hb b h).1) us xs q2 q3
    have G := GoesN.enumFrom (elts := elts) (x1 := kk) (pos := tpos) 0 D e hei (fun z => by
      rcases List.mem_cons.mp z with z | z
      · exact hei z
      · exact (hb e z).2 rfl) List.mem_cons_self
    refine ⟨_, _, _, G, fun i st => ⟨?_, st.2, q1⟩, fun i h st => ⟨?_, st.2.1⟩, fun i v h' hi y => ?_⟩
    · obtain ⟨⟨old, he⟩, _⟩ := st
      exact ⟨old, by rw [Int.zero_add]; exact he⟩
    · obtain ⟨⟨old, he⟩, _⟩ := st
      exact ⟨old, by rw [Int.zero_add] at he; exact he⟩
    · obtain ⟨p, t, u, rfl, hp, ⟨x, ex, rx⟩, hT⟩ := y
      exact ⟨p, _, [.int (i : Nat), x], rfl, hp, hT, by unfold enY; rw [ex]; rfl, .cons ⟨t, by rw [Int.zero_add]⟩ (.cons rx .nil), by show 2 ≤ sizeLine; decide⟩

/-! ### zip -/
def zpY (xs ys : List V) (i : Nat) : Option (List V) := (xs[i]?).bind fun x => (ys[i]?).map fun y => [x, y]
def zpY3 (xs ys zs : List V) (i : Nat) : Option (List V) := (xs[i]?).bind fun x => (ys[i]?).bind fun y => (zs[i]?).map fun z => [x, y, z]
theorem turn_zp {P : Program} {w : World} {K : PySem.W.Frag} {elts : List Expr} {kk : Nat} {tpos : Pos} (k1 k2 : Kd) (xs ys : List V) (N : Addr) (h1 : ∀ b ∈ k1.base, b < N) (h2 : ∀ b ∈ k2.base, b < N) :
    Turn P w K (.Tuple elts kk tpos) (ItG (fun H => k1.has K H xs ∧ k2.has K H ys) (min xs.length ys.length) (zpY xs ys)) [N + 4, N + 2, N + 3, N, N + 1] (N + 4)
      (fun i h => IsZip h (N + 4) (N + 2) (N + 3) .none ∧ IsTupOf2 h (N + 2) (.ref N) (.ref (N + 1)) ∧ (∃ a1 a2, IsTupOf2 h (N + 3) a1 a2) ∧ k1.at_ N i h ∧ k2.at_ (N + 1) i h) := by
  refine turn_g (wr := [N + 4, N + 3, N, N + 1]) (by simp) (fun b h => by simp at h ⊢; rcases h with h | h | h | h <;> simp [h]) (fun i h st b hb => ?_) (fun i h h' st k => ?_) (fun A i s Q E st q => wpAny_pyIter_zip st.1 q) (fun X hP hw hK hc pins s σ H I hs => ?_)
  · obtain ⟨z1, z2, ⟨a1, a2, z3⟩, z4, z5⟩ := st
    rcases (by simpa using hb : b = N + 4 ∨ b = N + 2 ∨ b = N + 3 ∨ b = N ∨ b = N + 1) with rfl | rfl | rfl | rfl | rfl
    · exact ⟨_, z1, fun v q => nomatch q⟩
    · exact ⟨_, z2, fun v q => nomatch q⟩
    · exact ⟨_, z3, fun v q => nomatch q⟩
    · exact k1.live z4
    · exact k2.live z5
  · obtain ⟨z1, z2, ⟨a1, a2, z3⟩, z4, z5⟩ := st
    exact ⟨k _ (by simp) _ z1, k _ (by simp) _ z2, ⟨a1, a2, k _ (by simp) _ z3⟩, k1.at_keep (fun o q => k _ (by simp) o q) z4, k2.at_keep (fun o q => k _ (by simp) o q) z5⟩
  · subst hP hw hK
    obtain ⟨us, q1, q2, q3, _⟩ := k1.read I hs.1
    obtain ⟨ws, r1, r2, r3, _⟩ := k2.read I hs.2
    have D1 := k1.draws (P := X.prog) (w := X.w) (A := X.A.in1) (I.ok.hd hc) N (fun b h => Nat.ne_of_lt (h1 b h)) us xs q2 q3
    have D2 := k2.draws (P := X.prog) (w := X.w) (A := X.A.in1) (I.ok.hd hc) (N + 1) (fun b h => Nat.ne_of_lt (Nat.lt_succ_of_lt (h2 b h))) ws ys r2 r3
    refine ⟨_, _, _, GoesN.zip2 (elts := elts) (x1 := kk) (pos := tpos) (zip_sep2 h1 h2) D1 D2, fun i st => ⟨st.1, st.2.1, st.2.2.1, ⟨st.2.2.2.1, q1⟩, st.2.2.2.2, r1⟩, fun i h st => ⟨st.1, st.2.1, st.2.2.1, st.2.2.2.1.1, st.2.2.2.2.1⟩, fun i v h' hi y => ?_⟩
    obtain ⟨p, u, u2, rfl, hp, ⟨x, ex, rx⟩, ⟨x2, ex2, rx2⟩, hT⟩ := y
    exact ⟨p, _, [x, x2], rfl, hp, hT, by unfold zpY; rw [ex, ex2]; rfl, .cons rx (.cons rx2 .nil), by show 2 ≤ sizeLine; decide⟩
theorem turn_zp3 {P : Program} {w : World} {K : PySem.W.Frag} {elts : List Expr} {kk : Nat} {tpos : Pos} (k1 k2 k3 : Kd) (xs ys zs : List V) (N : Addr) (h1 : ∀ b ∈ k1.base, b < N) (h2 : ∀ b ∈ k2.base, b < N) (h3 : ∀ b ∈ k3.base, b < N) :
    Turn P w K (.Tuple elts kk tpos) (ItG (fun H => k1.has K H xs ∧ k2.has K H ys ∧ k3.has K H zs) (min (min xs.length ys.length) zs.length) (zpY3 xs ys zs)) [N + 5, N + 3, N + 4, N, N + 1, N + 2] (N + 5)
      (fun i h => IsZip h (N + 5) (N + 3) (N + 4) .none ∧ IsTupOf3 h (N + 3) (.ref N) (.ref (N + 1)) (.ref (N + 2)) ∧ (∃ a1 a2 a3, IsTupOf3 h (N + 4) a1 a2 a3) ∧ k1.at_ N i h ∧ k2.at_ (N + 1) i h ∧ k3.at_ (N + 2) i h) := by
  refine turn_g (wr := [N + 5, N + 4, N, N + 1, N + 2]) (by simp) (fun b h => by simp at h ⊢; rcases h with h | h | h | h | h <;> simp [h]) (fun i h st b hb => ?_) (fun i h h' st k => ?_) (fun A i s Q E st q => wpAny_pyIter_zip st.1 q) (fun X hP hw hK hc pins s σ H I hs => ?_)
  · obtain ⟨z1, z2, ⟨a1, a2, a3, z3⟩, z4, z5, z6⟩ := st
    rcases (by simpa using hb : b = N + 5 ∨ b = N + 3 ∨ b = N + 4 ∨ b = N ∨ b = N + 1 ∨ b = N + 2) with rfl | rfl | rfl | rfl | rfl | rfl
    · exact ⟨_, z1, fun v q => nomatch q⟩
    · exact ⟨_, z2, fun v q => nomatch q⟩
    · exact ⟨_, z3, fun v q => nomatch q⟩
    · exact k1.live z4
    · exact k2.live z5
    · exact k3.live z6
  · obtain ⟨z1, z2, ⟨a1, a2, a3, z3⟩, z4, z5, z6⟩ := st
    exact ⟨k _ (by simp) _ z1, k _ (by simp) _ z2, ⟨a1, a2, a3, k _ (by simp) _ z3⟩, k1.at_keep (fun o q => k _ (by simp) o q) z4, k2.at_keep (fun o q => k _ (by simp) o q) z5, k3.at_keep (fun o q => k _ (by simp) o q) z6⟩
  · subst hP hw hK
    obtain ⟨us, q1, q2, q3, _⟩ := k1.read I hs.1
    obtain ⟨ws, r1, r2, r3, _⟩ := k2.read I hs.2.1
    obtain ⟨ts, t1, t2, t3, _⟩ := k3.read I hs.2.2
    have D1 := k1.draws (P := X.prog) (w := X.w) (A := X.A.in1) (I.ok.hd hc) N (fun b h => Nat.ne_of_lt (h1 b h)) us xs q2 q3
    have D2 := k2.draws (P := X.prog) (w := X.w) (A := X.A.in1) (I.ok.hd hc) (N + 1) (fun b h => Nat.ne_of_lt (Nat.lt_succ_of_lt (h2 b h))) ws ys r2 r3
    have D3 := k3.draws (P := X.prog) (w := X.w) (A := X.A.in1) (I.ok.hd hc) (N + 2) (fun b h => Nat.ne_of_lt (Nat.lt_succ_of_lt (Nat.lt_succ_of_lt (h3 b h)))) ts zs t2 t3
    refine ⟨_, _, _, GoesN.zip3 (elts := elts) (x1 := kk) (pos := tpos) (zip_sep3 h1 h2 h3) D1 D2 D3, fun i st => ⟨st.1, st.2.1, st.2.2.1, ⟨st.2.2.2.1, q1⟩, ⟨st.2.2.2.2.1, r1⟩, st.2.2.2.2.2, t1⟩, fun i h st => ⟨st.1, st.2.1, st.2.2.1, st.2.2.2.1.1, st.2.2.2.2.1.1, st.2.2.2.2.2.1⟩, fun i v h' hi y => ?_⟩
    obtain ⟨p, u, u2, u3, rfl, hp, ⟨x, ex, rx⟩, ⟨x2, ex2, rx2⟩, ⟨x3, ex3, rx3⟩, hT⟩ := y
    exact ⟨p, _, [x, x2, x3], rfl, hp, hT, by unfold zpY3; rw [ex, ex2, ex3]; rfl, .cons rx (.cons rx2 (.cons rx3 .nil)), by show 3 ≤ sizeLine; decide⟩

/-! ### what they begin with -/
/-- the thing that v is, to be walked, and what is wanted of it -/
def KdQ (K : PySem.W.Frag) (H : Hp) (v : V) (xs : List V) (C : Kd → Prop) : Prop :=
  (∃ a, v = .ref a ∧ ((SqL K H a xs ∧ C (.lst a)) ∨ (SqT K H a xs ∧ C (.tup a)))) ∨ ∃ x, v = .str x ∧ xs = (x.cps.toList.map fun c => V.str ⟨#[c]⟩) ∧ ∀ t, C (.txt x t)
theorem KdQ.kd {K : PySem.W.Frag} {H : Hp} {v : V} {u : Value} {xs : List V} {C : Kd → Prop} (h : KdQ K H v xs C) (r : RelV v u) : ∃ kd : Kd, kd.val = u ∧ kd.has K H xs ∧ C kd := by
  rcases h with ⟨a, rfl, ⟨h, c⟩ | ⟨h, c⟩⟩ | ⟨x, rfl, h, c⟩
  · cases r; exact ⟨.lst a, rfl, h, c⟩
  · cases r; exact ⟨.tup a, rfl, h, c⟩
  · obtain ⟨t, rfl⟩ := r; exact ⟨.txt x t, rfl, h, c t⟩
def iEnG (K : PySem.W.Frag) (ta : TA) : TI := fun σ H R => ta σ H fun vs H1 => ∃ v xs, vs = [v] ∧ KdQ K H1 v xs fun kd => R (ItG (fun H => kd.has K H xs) xs.length (enY xs)) H1
theorem pi_enG {X : Cx} {e : Expr} {ta : TA} {p pos tpos : Pos} {elts : List Expr} {kk : Nat} (hg : Gl X "enumerate") (hm : X.mg "enumerate" = none) (ha : PA X [e] ta) (hs : starEach [e] X.env = [(false, eval e X.env)] := by rfl) :
    PI X (.Tuple elts kk tpos) (.Call (.Name "enumerate" p) [e] [] pos) (iEnG X.K ta) := by
  refine ⟨fun pins s σ H R I h => ?_⟩
  refine Call_ (ld_blt I hg hm boot_enumerate (PyProof.Rows.callWith_type1 (thn (ha.run pos pins s σ H _ I h) fun us s1 hh => ?_) hs rfl))
  obtain ⟨vs, H1, I1, r1, v, xs, ev, hk⟩ := hh
  subst ev
  obtain ⟨u, rfl, ru⟩ := vals1 r1
  obtain ⟨kd, rfl, hh, q⟩ := hk.kd ru
  obtain ⟨ws, q1, _, _, q4⟩ := kd.read I1 hh
  refine en1_begins (kd.begins ws) q1 fun h' he hit hk' => wpAny_pyIter_enum he ?_
  have I2 : Inv X pins σ H1 { s1 with heap := h' } := I1.kept (t' := s1.toks) hk'
  refine ⟨s1.heap.objs.size + 1, [s1.heap.objs.size + 1, s1.heap.objs.size], _, _, H1, rfl, I2, turn_en kd xs (s1.heap.objs.size + 1) s1.heap.objs.size (Nat.succ_ne_self _) (fun b hb => ⟨Nat.ne_of_lt (q4 b hb), Nat.ne_of_lt (Nat.lt_succ_of_lt (q4 b hb))⟩), ⟨⟨.none, he⟩, kd.at0 hit⟩, fun b hb => ?_, q⟩
  have hle : s1.heap.objs.size ≤ b := by
    rcases (by simpa using hb : b = s1.heap.objs.size + 1 ∨ b = s1.heap.objs.size) with z | z
    · rw [z]; exact Nat.le_add_right _ _
    · rw [z]; exact Nat.le_refl _
  exact I1.fpOk hle (I1.hok.fresh hle)
def iZpG (K : PySem.W.Frag) (ta : TA) : TI := fun σ H R => ta σ H fun vs H1 => ∃ v1 v2 xs ys, vs = [v1, v2] ∧ KdQ K H1 v1 xs fun k1 => KdQ K H1 v2 ys fun k2 => R (ItG (fun H => k1.has K H xs ∧ k2.has K H ys) (min xs.length ys.length) (zpY xs ys)) H1
theorem pi_zpG {X : Cx} {e e2 : Expr} {ta : TA} {p pos tpos : Pos} {elts : List Expr} {kk : Nat} (hg : Gl X "zip") (hm : X.mg "zip" = none) (ha : PA X [e, e2] ta) (hs : starEach (e :: [e2]) X.env = (false, eval e X.env) :: starEach [e2] X.env := by rfl) (hpl : (backTo pos (starEach [e2] X.env)).any (·.1) = false := by rfl) :
    PI X (.Tuple elts kk tpos) (.Call (.Name "zip" p) [e, e2] [] pos) (iZpG X.K ta) := by
  refine ⟨fun pins s σ H R I h => ?_⟩
  refine Call_ (ld_blt I hg hm PyProof.Rows.boot_zip (PyProof.Rows.callWith_type1 (thn (ha.run pos pins s σ H _ I h) fun us s1 hh => ?_) hs hpl))
  obtain ⟨vs, H1, I1, r1, v1, v2, xs, ys, ev, hk1⟩ := hh
  subst ev
  obtain ⟨u, u2, rfl, ru, ru2⟩ := vals2 r1
  obtain ⟨k1, rfl, hh1, hk2⟩ := hk1.kd ru
  obtain ⟨k2, rfl, hh2, q⟩ := hk2.kd ru2
  obtain ⟨ws1, a1, _, _, a4⟩ := k1.read I1 hh1
  obtain ⟨ws2, b1, _, _, b4⟩ := k2.read I1 hh2
  refine zip_begins2 (k1.begins ws1) (k2.begins ws2) a1 b1 fun h' z1 z2 z3 z4 z5 _ hk' => wpAny_pyIter_zip z1 ?_
  have I2 : Inv X pins σ H1 { s1 with heap := h' } := I1.kept (t' := s1.toks) hk'
  refine ⟨s1.heap.objs.size + 4, [s1.heap.objs.size + 4, s1.heap.objs.size + 2, s1.heap.objs.size + 3, s1.heap.objs.size, s1.heap.objs.size + 1], _, _, H1, rfl, I2, turn_zp k1 k2 xs ys s1.heap.objs.size a4 b4, ⟨z1, z2, ⟨_, _, z3⟩, k1.at0 z4, k2.at0 z5⟩, fun b hb => ?_, q⟩
  have hle : s1.heap.objs.size ≤ b := by
    rcases (by simpa using hb : b = s1.heap.objs.size + 4 ∨ b = s1.heap.objs.size + 2 ∨ b = s1.heap.objs.size + 3 ∨ b = s1.heap.objs.size ∨ b = s1.heap.objs.size + 1) with z | z | z | z | z <;> (rw [z]; first | exact Nat.le_add_right _ _ | exact Nat.le_refl _)
  exact I1.fpOk hle (I1.hok.fresh hle)
def iZpG3 (K : PySem.W.Frag) (ta : TA) : TI := fun σ H R => ta σ H fun vs H1 => ∃ v1 v2 v3 xs ys zs, vs = [v1, v2, v3] ∧ KdQ K H1 v1 xs fun k1 => KdQ K H1 v2 ys fun k2 => KdQ K H1 v3 zs fun k3 =>
  R (ItG (fun H => k1.has K H xs ∧ k2.has K H ys ∧ k3.has K H zs) (min (min xs.length ys.length) zs.length) (zpY3 xs ys zs)) H1
theorem pi_zpG3 {X : Cx} {e e2 e3 : Expr} {ta : TA} {p pos tpos : Pos} {elts : List Expr} {kk : Nat} (hg : Gl X "zip") (hm : X.mg "zip" = none) (ha : PA X [e, e2, e3] ta) (hs : starEach (e :: [e2, e3]) X.env = (false, eval e X.env) :: starEach [e2, e3] X.env := by rfl) (hpl : (backTo pos (starEach [e2, e3] X.env)).any (·.1) = false := by rfl) :
    PI X (.Tuple elts kk tpos) (.Call (.Name "zip" p) [e, e2, e3] [] pos) (iZpG3 X.K ta) := by
  refine ⟨fun pins s σ H R I h => ?_⟩
  refine Call_ (ld_blt I hg hm PyProof.Rows.boot_zip (PyProof.Rows.callWith_type1 (thn (ha.run pos pins s σ H _ I h) fun us s1 hh => ?_) hs hpl))
  obtain ⟨vs, H1, I1, r1, v1, v2, v3, xs, ys, zs, ev, hk1⟩ := hh
  subst ev
  obtain ⟨u, u2, u3, rfl, ru, ru2, ru3⟩ : ∃ a b c, us = [a, b, c] ∧ RelV v1 a ∧ RelV v2 b ∧ RelV v3 c := by
    cases r1 with
    | cons p q =>
      cases q with
      | cons p' q' =>
        cases q' with
        | cons p2 q2 => cases q2; exact ⟨_, _, _, rfl, p, p', p2⟩
  obtain ⟨k1, rfl, hh1, hk2⟩ := hk1.kd ru
  obtain ⟨k2, rfl, hh2, hk3⟩ := hk2.kd ru2
  obtain ⟨k3, rfl, hh3, q⟩ := hk3.kd ru3
  obtain ⟨ws1, a1, _, _, a4⟩ := k1.read I1 hh1
  obtain ⟨ws2, b1, _, _, b4⟩ := k2.read I1 hh2
  obtain ⟨ws3, c1, _, _, c4⟩ := k3.read I1 hh3
  refine zip_begins3 (k1.begins ws1) (k2.begins ws2) (k3.begins ws3) a1 b1 c1 fun h' z1 z2 z3 z4 z5 z6 _ hk' => wpAny_pyIter_zip z1 ?_
  have I2 : Inv X pins σ H1 { s1 with heap := h' } := I1.kept (t' := s1.toks) hk'
  refine ⟨s1.heap.objs.size + 5, [s1.heap.objs.size + 5, s1.heap.objs.size + 3, s1.heap.objs.size + 4, s1.heap.objs.size, s1.heap.objs.size + 1, s1.heap.objs.size + 2], _, _, H1, rfl, I2, turn_zp3 k1 k2 k3 xs ys zs s1.heap.objs.size a4 b4 c4, ⟨z1, z2, ⟨_, _, _, z3⟩, k1.at0 z4, k2.at0 z5, k3.at0 z6⟩, fun b hb => ?_, q⟩
  have hle : s1.heap.objs.size ≤ b := by
    rcases (by simpa using hb : b = s1.heap.objs.size + 5 ∨ b = s1.heap.objs.size + 3 ∨ b = s1.heap.objs.size + 4 ∨ b = s1.heap.objs.size ∨ b = s1.heap.objs.size + 1 ∨ b = s1.heap.objs.size + 2) with z | z | z | z | z | z <;> (rw [z]; first | exact Nat.le_add_right _ _ | exact Nat.le_refl _)
  exact I1.fpOk hle (I1.hok.fresh hle)
/-- a list, a tuple, a text, walked itself -/
def itK (K : PySem.W.Frag) : Kd → It
  | .lst a => Itl K a
  | .tup a => Itt K a
  | .txt x _ => Its x
def iSeqG (K : PySem.W.Frag) (te : TE) : TI := fun σ H R => te σ H fun v H1 => ∃ xs, KdQ K H1 v xs fun kd => R (itK K kd) H1
theorem pi_seqG {X : Cx} {tg e : Expr} {te : TE} (he : PE X e te) : PI X tg e (iSeqG X.K te) := by
  refine ⟨fun pins s σ H R I h => ?_⟩
  refine thn (he.run pins s σ H _ I h) fun u s1 hh => ?_
  obtain ⟨v, H1, I1, ru, xs, hk⟩ := hh
  obtain ⟨kd, rfl, hh, q⟩ := hk.kd ru
  cases kd with
  | lst a =>
    obtain ⟨its, _, p, _⟩ := I1.list hh
    exact wpAny_pyIter_list p.isList (pi_one (tk := s1.toks) I1 _ (turn_list a _) ⟨_, Heap.get?_push_size _ rfl, rfl, rfl⟩ q)
  | tup a =>
    obtain ⟨its, _, p, _⟩ := I1.tuple hh
    exact wpAny_pyIter_tuple (show s1.heap.IsTuple a its.toArray from p) (pi_one (tk := s1.toks) I1 _ (turn_tuple a _) ⟨_, Heap.get?_push_size _ rfl, rfl, rfl⟩ q)
  | txt x t =>
    show wpAny _ _ (pyIter (.str x t)) _ _ _
    cases ha : x.cps.all (· < 128)
    · exact wpAny_pyIter_wide ha (pi_one (tk := s1.toks) I1 _ (turn_str _ x t "str_iterator" (.inr rfl)) ⟨_, Heap.get?_push_size _ rfl, rfl, rfl⟩ q)
    · exact wpAny_pyIter_ascii ha (pi_one (tk := s1.toks) I1 _ (turn_str _ x t "str_ascii_iterator" (.inl rfl)) ⟨_, Heap.get?_push_size _ rfl, rfl, rfl⟩ q)
end Zy
set_option Elab.async false
set_option linter.all false
set_option maxRecDepth 100000
set_option maxHeartbeats 400000
/-! Z7: what is walked, by trees. -/
namespace Zy
open PySem PySem.Spec PyProof.Rows L2

def sign (c : Nat) : T := .str ⟨#[c]⟩
/-- the items of a thing, and what the store must keep while they are walked -/
def Itm (μ : Mu) : D → List D → (Mu → Prop) → Prop
  | .t (.lst l), ds, chk => ds = l.map .t ∧ chk = fun _ => True
  | .t (.tup l), ds, chk => ds = l.map .t ∧ chk = fun _ => True
  | .t (.scr l), ds, chk => ds = l.map .t ∧ chk = fun _ => True
  | .t (.str x), ds, chk => ds = (x.cps.toList.map fun c => D.t (sign c)) ∧ chk = fun _ => True
  | .r i, ds, chk => μ[i]? = some (.tup ds) ∧ chk = fun _ => True
  | _, _, _ => False
/-- a kind that stands for items as long as chk holds -/
def Hold (K : PySem.W.Frag) (kd : Kd) (ds : List D) (chk : Mu → Prop) (F : Fz) (β : List Addr) (H : Hp) (xs : List V) : Prop :=
  ∀ F' β' H' μ', Stp F β H F' β' H' → Sto K F' β' H' μ' → chk μ' → kd.has K H' xs ∧ RepDs K F' β' H' ds xs
theorem Itm.kd {K : PySem.W.Frag} {F : Fz} {β : List Addr} {H : Hp} {μ : Mu} (s : Sto K F β H μ) {d : D} {v : V} {ds : List D} {chk : Mu → Prop} (r : RepD K F β H d v) (h : Itm μ d ds chk) :
    ∃ xs, xs.length = ds.length ∧ ∀ C : Kd → Prop, (∀ kd, Hold K kd ds chk F β H xs → C kd) → KdQ K H v xs C := by
  cases d with
  | t x =>
    cases x with
    | lst l =>
      obtain ⟨rfl, rfl⟩ : ds = l.map .t ∧ chk = fun _ => True := h
      have r' : Rep K F H (.lst l) v := r
      unfold Rep at r'
      obtain ⟨_, a, xs, e, f, q, q'⟩ := r'
      exact ⟨xs, by simp [q'.length], fun C c => .inl ⟨a, e, .inl ⟨.of q, c (.lst a) fun F' β' H' μ' st s' _ => ⟨.of ((st.h a f).trans q), (RepDs.ofL q').stp st⟩⟩⟩⟩
    | scr l =>
      obtain ⟨rfl, rfl⟩ : ds = l.map .t ∧ chk = fun _ => True := h
      have r' : Rep K F H (.scr l) v := r
      unfold Rep at r'
      obtain ⟨_, a, xs, e, q, q'⟩ := r'
      exact ⟨xs, by simp [q'.length], fun C c => .inl ⟨a, e, .inl ⟨q.sq, c (.lst a) fun F' β' H' μ' st s' _ => ⟨(q.mon st.mon).sq, (RepDs.ofL q').stp st⟩⟩⟩⟩
    | tup l =>
      obtain ⟨rfl, rfl⟩ : ds = l.map .t ∧ chk = fun _ => True := h
      have r' : Rep K F H (.tup l) v := r
      unfold Rep at r'
      obtain ⟨_, a, xs, e, q, q'⟩ := r'
      exact ⟨xs, by simp [q'.length], fun C c => .inl ⟨a, e, .inr ⟨q.sq, c (.tup a) fun F' β' H' μ' st s' _ => ⟨(q.mon st.mon).sq, (RepDs.ofL q').stp st⟩⟩⟩⟩
    | str y =>
      obtain ⟨rfl, rfl⟩ : ds = (y.cps.toList.map fun c => D.t (sign c)) ∧ chk = fun _ => True := h
      have r' : Rep K F H (.str y) v := r
      unfold Rep at r'
      refine ⟨_, by simp, fun C c => .inr ⟨y, r', rfl, fun t => c (.txt y t) fun F' β' H' μ' st s' _ => ⟨rfl, ?_⟩⟩⟩
      have aux : ∀ l : List Nat, RepDs K F' β' H' (l.map fun c => D.t (sign c)) (l.map fun c => V.str ⟨#[c]⟩) := by
        intro l
        induction l with
        | nil => rfl
        | cons c l ih => exact ⟨_, _, rfl, @rep_str K F' H' ⟨#[c]⟩, ih⟩
      exact aux _
    | _ => exact (show False from h).elim
  | r i =>
    obtain ⟨a, ha, rfl⟩ := r
    obtain ⟨em, rfl⟩ : μ[i]? = some (.tup ds) ∧ chk = fun _ => True := h
    obtain ⟨xs, e, q⟩ := s.ok i a _ ha em
    exact ⟨xs, q.length, fun C c => .inl ⟨a, rfl, .inr ⟨.of e, c (.tup a) fun F' β' H' μ' st s' em' => ⟨.of (st.t a xs e), q.stp st⟩⟩⟩⟩
/-- .. or a list of the store, walked itself -/
def ItmS (μ : Mu) (d : D) (ds : List D) (chk : Mu → Prop) : Prop := Itm μ d ds chk ∨ ∃ i, d = .r i ∧ μ[i]? = some (.lst ds) ∧ chk = fun μ' => μ'[i]? = some (.lst ds)
section
variable {X : Cx} {W : WX} {tg e : Expr}
def wSeqI (we : WEx) : WIt := fun ρ μ Q E => we ρ μ (fun d μ1 => ∃ ds chk, ItmS μ1 d ds chk ∧ Q ds chk μ1) E
theorem hold_src {K : PySem.W.Frag} {kd : Kd} {ds : List D} {chk : Mu → Prop} {F : Fz} {β : List Addr} {H : Hp} {xs : List V} (hl : xs.length = ds.length) (h : Hold K kd ds chk F β H xs) : Src K (itK K kd) ds chk F β H := by
  intro F' β' H' μ' st s' c i
  obtain ⟨h1, h2⟩ := h F' β' H' μ' st s' c
  refine ⟨fun d e => ?_, fun hi => ?_⟩
  · obtain ⟨x, ex, rx⟩ := h2.get e
    have fin : ∀ {y H2}, H2 = H' → y = x → ∃ F2, Gro F' H' F2 H2 ∧ RepD K F2 β' H2 d y := fun {y H2} e1 e2 => by
      subst e1 e2
      exact ⟨F', .refl s'.ftr, rx⟩
    cases kd with
    | lst a => exact ⟨⟨xs, x, h1, ex⟩, fun y H2 z => fin z.1 (by have := z.2 xs h1; rw [ex] at this; exact (Option.some.inj this).symm)⟩
    | tup a => exact ⟨⟨xs, x, h1, ex⟩, fun y H2 z => fin z.1 (by have := z.2 xs h1; rw [ex] at this; exact (Option.some.inj this).symm)⟩
    | txt z t =>
      have h1' : xs = z.cps.toList.map fun c => V.str ⟨#[c]⟩ := h1
      have hi : i < z.cps.size := by
        have := (List.getElem?_eq_some_iff.mp ex).1
        rw [h1'] at this; simpa using this
      refine ⟨hi, fun y H2 ⟨e1, c, ec, ey⟩ => fin e1 ?_⟩
      rw [h1', List.getElem?_map, Array.getElem?_toList, ec] at ex
      rw [ey]; exact Option.some.inj ex
  · cases kd with
    | lst a => exact ⟨xs, h1, by omega⟩
    | tup a => exact ⟨xs, h1, by omega⟩
    | txt z t =>
      have h1' : xs = z.cps.toList.map fun c => V.str ⟨#[c]⟩ := h1
      show z.cps.size ≤ i
      have : xs.length = z.cps.size := by rw [h1']; simp
      omega
theorem zi_seq {we : WEx} (he : ZE X W e we) : ZI X W tg e (wSeqI we) :=
  ⟨PI.imp (pi_seqG he.pe) fun σ H R ⟨F, β, ρ, μ, Qi, Ed, s, l, q, o, w⟩ => ⟨F, β, ρ, μ, _, Ed, s, l, fun d μ1 ⟨ds, chk, h1, h2⟩ v H' F' β' st s' r' => by
    rcases h1 with h1 | ⟨i, rfl, em, rfl⟩
    · obtain ⟨xs, hl, hk⟩ := h1.kd s' r'
      exact ⟨xs, hk _ fun kd hh => q ds chk μ1 h2 _ H' F' β' st s' (hold_src hl hh)⟩
    · obtain ⟨a, ha, rfl⟩ := r'
      obtain ⟨_, xs, e1, q1⟩ := s'.ok i a _ ha em
      refine ⟨xs, .inl ⟨a, rfl, .inl ⟨.of e1, q ds _ μ1 h2 _ H' F' β' st s' fun F2 β2 H2 μ2 st2 s2 em2 j => ?_⟩⟩⟩
      have ha2 : β2[i]? = some a := by
        obtain ⟨l2, rfl⟩ := st2.b
        rw [List.getElem?_append_left (List.getElem?_eq_some_iff.mp ha).1]; exact ha
      obtain ⟨_, ys, e2, q2⟩ := s2.ok i a _ ha2 em2
      refine ⟨fun d ed => ?_, fun hj => ⟨ys, .of e2, by rw [q2.length, hj]; exact Nat.le_refl _⟩⟩
      obtain ⟨x, ex, rx⟩ := q2.get ed
      refine ⟨⟨ys, x, .of e2, ex⟩, fun y H3 z => ?_⟩
      have := z.2 ys (.of e2)
      rw [ex] at this
      rw [z.1, ← Option.some.inj this]
      exact ⟨F2, .refl s2.ftr, rx⟩, o, w⟩⟩
/-- range -/
def wRg1 (wa : WAr) : WIt := fun ρ μ Q E => wa ρ μ (fun ds μ1 => ∃ j : Int, ds = [.t (.int j)] ∧ j < 2 ^ 62 ∧ -(2 ^ 62) ≤ j ∧ Q ((List.range j.toNat).map fun i => D.t (.int (i : Nat))) (fun _ => True) μ1) E
def wRg2 (wa : WAr) : WIt := fun ρ μ Q E => wa ρ μ (fun ds μ1 => ∃ i j : Int, ds = [.t (.int i), .t (.int j)] ∧ (-(2 ^ 62) ≤ i ∧ i < 2 ^ 62 ∧ -(2 ^ 62) ≤ j ∧ j < 2 ^ 62) ∧ Q ((List.range (j - i).toNat).map fun k => D.t (.int (i + (k : Nat)))) (fun _ => True) μ1) E
theorem rng_src {K : PySem.W.Frag} {lo : Int} {n : Nat} {F : Fz} {β : List Addr} {H : Hp} {f : Nat → Int} (hf : ∀ i : Nat, f i = lo + (i : Nat)) : Src K (Itr lo n) ((List.range n).map fun i => D.t (.int (f i))) (fun _ => True) F β H := by
  intro F' β' H' μ' st s' _ i
  refine ⟨fun d e => ?_, fun hi => ?_⟩
  · rw [List.getElem?_map] at e
    have hi : i < n := by
      by_cases h : i < n
      · exact h
      · rw [List.getElem?_eq_none (by simpa using h)] at e; cases e
    rw [List.getElem?_range hi] at e
    cases e
    refine ⟨hi, fun x H2 ⟨e1, e2⟩ => ?_⟩
    rw [e1, e2, ← hf i]
    exact ⟨F', .refl s'.ftr, @rep_int K F' H' (f i)⟩
  · show n ≤ i
    rw [hi]; simp
theorem one_int {K : PySem.W.Frag} {F : Fz} {β : List Addr} {H : Hp} {j : Int} {vs : List V} (r : RepDs K F β H [.t (.int j)] vs) : vs = [.int j] := by
  obtain ⟨x, xr, rfl, r1, r2⟩ := r
  have r1' : Rep K F H (.int j) x := r1
  unfold Rep at r1'
  cases (show xr = [] from r2)
  rw [r1']
theorem two_int {K : PySem.W.Frag} {F : Fz} {β : List Addr} {H : Hp} {i j : Int} {vs : List V} (r : RepDs K F β H [.t (.int i), .t (.int j)] vs) : vs = [.int i, .int j] := by
  obtain ⟨x, xr, rfl, r1, r2⟩ := r
  have r1' : Rep K F H (.int i) x := r1
  unfold Rep at r1'
  rw [r1', one_int (K := K) (F := F) (β := β) (H := H) r2]
theorem zi_rg1 {a : Expr} {wa : WAr} {p pos : Pos} (hm : X.mg "range" = none) (ha : ZA X W [a] wa) (hg : Gl X "range" := by rfl) (hs : starEach [a] X.env = [(false, eval a X.env)] := by rfl) : ZI X W tg (.Call (.Name "range" p) [a] [] pos) (wRg1 wa) :=
  ⟨PI.imp (pi_range1 hg hm ha.pa hs) fun σ H R ⟨F, β, ρ, μ, Qi, Ed, s, l, q, o, w⟩ => ⟨F, β, ρ, μ, _, Ed, s, l, fun ds μ1 ⟨j, h1, h2, h3, h4⟩ vs H' F' β' st s' r' => by
    subst h1
    exact ⟨j, one_int r', h3, h2, q _ _ μ1 h4 _ H' F' β' st s' (rng_src (f := fun i => (i : Nat)) fun i => by simp)⟩, o, w⟩⟩
theorem zi_rg2 {a b : Expr} {wa : WAr} {p pos : Pos} (hm : X.mg "range" = none) (ha : ZA X W [a, b] wa) (hg : Gl X "range" := by rfl) (hs : starEach [a, b] X.env = [(false, eval a X.env), (false, eval b X.env)] := by rfl) (hs2 : starEach [b] X.env = [(false, eval b X.env)] := by rfl) : ZI X W tg (.Call (.Name "range" p) [a, b] [] pos) (wRg2 wa) :=
  ⟨PI.imp (pi_range2 hg hm ha.pa hs hs2) fun σ H R ⟨F, β, ρ, μ, Qi, Ed, s, l, q, o, w⟩ => ⟨F, β, ρ, μ, _, Ed, s, l, fun ds μ1 ⟨i, j, h1, h2, h4⟩ vs H' F' β' st s' r' => by
    subst h1
    exact ⟨i, j, two_int r', h2, q _ _ μ1 h4 _ H' F' β' st s' (rng_src (f := fun k => i + (k : Nat)) fun k => rfl)⟩, o, w⟩⟩
/-- pairs as new tuples: of trees alone -/
def enT : Nat → List D → Option (List D)
  | _, [] => some []
  | i, .t x :: r => (enT (i + 1) r).map (D.t (.tup [.int (i : Nat), x]) :: ·)
  | _, .r _ :: _ => none
def zpT : List D → List D → Option (List D)
  | .t x :: r, .t y :: q => (zpT r q).map (D.t (.tup [x, y]) :: ·)
  | .t _ :: _, .r _ :: _ => none
  | .r _ :: _, _ :: _ => none
  | _, _ => some []
def zpT3 : List D → List D → List D → Option (List D)
  | .t x :: r, .t y :: q, .t z :: p => (zpT3 r q p).map (D.t (.tup [x, y, z]) :: ·)
  | [], _, _ => some []
  | _, [], _ => some []
  | _, _, [] => some []
  | _, _, _ => none
theorem enT_get : ∀ {ds ps : List D} {k : Nat}, enT k ds = some ps → ps.length = ds.length ∧ ∀ (i : Nat) p, ps[i]? = some p → ∃ x, ds[i]? = some (.t x) ∧ p = .t (.tup [.int ((k + i : Nat)), x])
  | [], ps, k, h => by cases h; exact ⟨rfl, fun i p e => by simp at e⟩
  | .r _ :: _, ps, k, h => nomatch (show (none : Option (List D)) = some ps from h)
  | .t x :: r, ps, k, h => by
    obtain ⟨l, e1, rfl⟩ := map_some (show (enT (k + 1) r).map (D.t (.tup [.int (k : Nat), x]) :: ·) = some ps from h)
    obtain ⟨hl, hg⟩ := enT_get e1
    refine ⟨by simp [hl], fun i p e => ?_⟩
    cases i with
    | zero => simp at e; exact ⟨x, rfl, e.symm⟩
    | succ i =>
      obtain ⟨y, e2, e3⟩ := hg i p (by simpa using e)
      exact ⟨y, by simpa using e2, by rw [e3]; congr 4; omega⟩
theorem zpT_get : ∀ {ds es ps : List D}, zpT ds es = some ps → ps.length = min ds.length es.length ∧ ∀ (i : Nat) p, ps[i]? = some p → ∃ x y, ds[i]? = some (.t x) ∧ es[i]? = some (.t y) ∧ p = .t (.tup [x, y])
  | [], es, ps, h => by cases (show some [] = some ps by cases es <;> exact h); exact ⟨by simp, fun i p e => by simp at e⟩
  | d :: r, [], ps, h => by cases (show some [] = some ps by cases d <;> exact h); exact ⟨by simp, fun i p e => by simp at e⟩
  | .t x :: r, .t y :: q, ps, h => by
    obtain ⟨l, e1, rfl⟩ := map_some (show (zpT r q).map (D.t (.tup [x, y]) :: ·) = some ps from h)
    obtain ⟨hl, hg⟩ := zpT_get e1
    refine ⟨by simp [hl], fun i p e => ?_⟩
    cases i with
    | zero => simp at e; exact ⟨x, y, rfl, rfl, e.symm⟩
    | succ i => simpa using hg i p (by simpa using e)
  | .t x :: r, .r j :: q, ps, h => nomatch (show (none : Option (List D)) = some ps from h)
  | .r i :: r, d :: q, ps, h => nomatch (show (none : Option (List D)) = some ps from h)
def wEn (wa : WAr) : WIt := fun ρ μ Q E => wa ρ μ (fun ds μ1 => ∃ d it ps chk, ds = [d] ∧ Itm μ1 d it chk ∧ enT 0 it = some ps ∧ Q ps chk μ1) E
def wZp (wa : WAr) : WIt := fun ρ μ Q E => wa ρ μ (fun ds μ1 => ∃ d d' it it' ps chk chk', ds = [d, d'] ∧ Itm μ1 d it chk ∧ Itm μ1 d' it' chk' ∧ zpT it it' = some ps ∧ Q ps (fun μ => chk μ ∧ chk' μ) μ1) E
theorem new_tup {K : PySem.W.Frag} {F : Fz} {β : List Addr} {H : Hp} {μ : Mu} (s : Sto K F β H μ) {ts : List T} {xs : List V} (z : ts.length ≤ sizeLine) (q : RepL K F H ts xs) {p : Addr} (hp : H p = none) {d : D} (hd : d = .t (.tup ts)) : ∃ F2, Gro F H F2 (upd H p (.tup xs)) ∧ RepD K F2 β (upd H p (.tup xs)) d (.ref p) := by
  subst hd
  have g := Gro.newT (o := .tup xs) s.ftr hp
  exact ⟨F, g, rep_tup z upd_same g q⟩
theorem repL2 {K : PySem.W.Frag} {F : Fz} {H : Hp} {x y : T} {u v : V} (a : Rep K F H x u) (b : Rep K F H y v) : RepL K F H [x, y] [u, v] := .cons a (.cons b .nil)
theorem zi_en {a : Expr} {elts : List Expr} {kk : Nat} {wa : WAr} {p pos tpos : Pos} (hm : X.mg "enumerate" = none) (ha : ZA X W [a] wa) (hg : Gl X "enumerate" := by rfl) (hs : starEach [a] X.env = [(false, eval a X.env)] := by rfl) : ZI X W (.Tuple elts kk tpos) (.Call (.Name "enumerate" p) [a] [] pos) (wEn wa) :=
  ⟨PI.imp (pi_enG hg hm ha.pa hs) fun σ H R ⟨F, β, ρ, μ, Qi, Ed, s, l, q, o, w⟩ => ⟨F, β, ρ, μ, _, Ed, s, l, fun ds μ1 ⟨d, it, ps, chk, h1, h2, h3, h4⟩ vs H' F' β' st s' r' => by
    subst h1
    obtain ⟨v, xr, rfl, r1, r2⟩ := r'
    cases (show xr = [] from r2)
    obtain ⟨xs, hl, hk⟩ := h2.kd s' r1
    obtain ⟨pl, pg⟩ := enT_get h3
    refine ⟨v, xs, rfl, hk _ fun kd hh => q ps chk μ1 h4 _ H' F' β' st s' fun F2 β2 H2 μ2 st2 s2 c2 i => ?_⟩
    obtain ⟨g1, g2⟩ := hh F2 β2 H2 μ2 st2 s2 c2
    refine ⟨fun d ed => ?_, fun hi => ?_⟩
    · obtain ⟨x, ex, rfl⟩ := pg i d ed
      obtain ⟨y, ey, ry⟩ := g2.get ex
      have hi : i < xs.length := (List.getElem?_eq_some_iff.mp ey).1
      refine ⟨⟨g1, hi⟩, fun u H3 ⟨p, yl, e1, e2, e3, e4⟩ => ?_⟩
      subst e1 e3
      unfold enY at e4
      rw [ey] at e4
      cases e4
      exact new_tup s2 (ts := [.int (i : Nat), x]) (by show 2 ≤ sizeLine; decide) (repL2 rep_int ry) e2 (by rw [Nat.zero_add])
    · exact ⟨g1, by rw [hi, pl, hl]⟩, o, w⟩⟩
theorem two_d {K : PySem.W.Frag} {F : Fz} {β : List Addr} {H : Hp} {d d' : D} {vs : List V} (r : RepDs K F β H [d, d'] vs) : ∃ v v', vs = [v, v'] ∧ RepD K F β H d v ∧ RepD K F β H d' v' := by
  obtain ⟨x, xr, rfl, r1, y, yr, rfl, r2, r3⟩ := r
  cases (show yr = [] from r3)
  exact ⟨x, y, rfl, r1, r2⟩
theorem zi_zp {a b : Expr} {elts : List Expr} {kk : Nat} {wa : WAr} {p pos tpos : Pos} (hm : X.mg "zip" = none) (ha : ZA X W [a, b] wa) (hg : Gl X "zip" := by rfl) (hs : starEach (a :: [b]) X.env = (false, eval a X.env) :: starEach [b] X.env := by rfl) (hpl : (backTo pos (starEach [b] X.env)).any (·.1) = false := by rfl) : ZI X W (.Tuple elts kk tpos) (.Call (.Name "zip" p) [a, b] [] pos) (wZp wa) :=
  ⟨PI.imp (pi_zpG hg hm ha.pa hs hpl) fun σ H R ⟨F, β, ρ, μ, Qi, Ed, s, l, q, o, w⟩ => ⟨F, β, ρ, μ, _, Ed, s, l, fun ds μ1 ⟨d, d', it, it', ps, chk, chk', h1, h2, h2', h3, h4⟩ vs H' F' β' st s' r' => by
    subst h1
    obtain ⟨v, v', rfl, r1, r2⟩ := two_d r'
    obtain ⟨xs, hl, hk⟩ := h2.kd s' r1
    obtain ⟨ys, hl', hk'⟩ := h2'.kd s' r2
    obtain ⟨pl, pg⟩ := zpT_get h3
    refine ⟨v, v', xs, ys, rfl, hk _ fun k1 hh => hk' _ fun k2 hh' => q ps _ μ1 h4 _ H' F' β' st s' fun F2 β2 H2 μ2 st2 s2 c2 i => ?_⟩
    obtain ⟨g1, g2⟩ := hh F2 β2 H2 μ2 st2 s2 c2.1
    obtain ⟨g1', g2'⟩ := hh' F2 β2 H2 μ2 st2 s2 c2.2
    refine ⟨fun d ed => ?_, fun hi => ?_⟩
    · obtain ⟨x, y, ex, ey, rfl⟩ := pg i d ed
      obtain ⟨u, eu, ru⟩ := g2.get ex
      obtain ⟨z, ez, rz⟩ := g2'.get ey
      have hi : i < xs.length := (List.getElem?_eq_some_iff.mp eu).1
      have hj : i < ys.length := (List.getElem?_eq_some_iff.mp ez).1
      refine ⟨⟨⟨g1, g1'⟩, Nat.lt_min.mpr ⟨hi, hj⟩⟩, fun u2 H3 ⟨p, yl, e1, e2, e3, e4⟩ => ?_⟩
      subst e1 e3
      unfold zpY at e4
      rw [eu, ez] at e4
      cases e4
      exact new_tup s2 (ts := [x, y]) (by show 2 ≤ sizeLine; decide) (repL2 ru rz) e2 rfl
    · exact ⟨⟨g1, g1'⟩, by rw [hi, pl, hl, hl']⟩, o, w⟩⟩
end
end Zy
set_option Elab.async false
set_option linter.all false
set_option maxRecDepth 100000
set_option maxHeartbeats 400000
/-! Z8: calls that give back things within new things; calls on loan; comprehensions. -/
namespace Zy
open PySem PySem.Spec PyProof.Rows L2

/-! ### nested things from a call -/
def imD (n0 : Nat) (sel : List Nat) : D → Option D
  | .t x => some (.t x)
  | .r k => if k ∈ sel then some (.r (n0 + sel.idxOf k)) else none
def imDs (n0 : Nat) (sel : List Nat) : List D → Option (List D)
  | [] => some []
  | d :: r => (imD n0 sel d).bind fun d' => (imDs n0 sel r).map (d' :: ·)
def imM (n0 : Nat) (sel : List Nat) : MO → Option MO
  | .lst ds => (imDs n0 sel ds).map .lst
  | .tup ds => (imDs n0 sel ds).map .tup
  | .dk ks ds => (imDs n0 sel ds).map (.dk ks)
  | .dt ks ds => (imDs n0 sel ds).map (.dt ks)
  | .ins C ns ds => (imDs n0 sel ds).map (.ins C ns)
  | .dead => some .dead
def imp (n0 : Nat) (sel : List Nat) (μ' : Mu) : List Nat → Option Mu
  | [] => some []
  | k :: r => (μ'[k]?).bind fun m => (imM n0 sel m).bind fun m' => (imp n0 sel μ' r).map (m' :: ·)
section
variable {K : PySem.W.Frag} {F F' : Fz} {β β' : List Addr} {H H' : Hp} {μ μ' : Mu}
theorem bind_some {α β : Type} {o : Option α} {f : α → Option β} {t : β} (h : o.bind f = some t) : ∃ l, o = some l ∧ f l = some t := by
  cases o with
  | none => cases h
  | some l => exact ⟨l, rfl, h⟩
theorem imp_get {n0 : Nat} {sel : List Nat} : ∀ {l : List Nat} {ms : Mu}, imp n0 sel μ' l = some ms → l.length = ms.length ∧ ∀ (i : Nat) m, ms[i]? = some m → ∃ k m0, l[i]? = some k ∧ μ'[k]? = some m0 ∧ imM n0 sel m0 = some m
  | [], ms, h => by cases h; exact ⟨rfl, fun i m e => by simp at e⟩
  | k :: r, ms, h => by
    obtain ⟨m0, e0, h⟩ := bind_some h
    obtain ⟨m1, e1, h⟩ := bind_some h
    obtain ⟨ms', e2, rfl⟩ := map_some h
    obtain ⟨hl, hg⟩ := imp_get e2
    refine ⟨by simp [hl], fun i m e => ?_⟩
    cases i with
    | zero => simp at e; subst e; exact ⟨k, m0, rfl, e0, e1⟩
    | succ i => simpa using hg i m (by simpa using e)
theorem imD_rep {n0 : Nat} {sel : List Nat} {B : List Addr} (hB : ∀ k ∈ sel, ∀ a, β'[k]? = some a → B[n0 + sel.idxOf k]? = some a) {d d' : D} {v : V} (h : imD n0 sel d = some d') (r : RepD K F β' H d v) : RepD K F B H d' v := by
  cases d with
  | t x => cases h; exact r
  | r k =>
    have h' : (if k ∈ sel then some (D.r (n0 + sel.idxOf k)) else none) = some d' := h
    by_cases hk : k ∈ sel
    · rw [if_pos hk] at h'
      cases h'
      obtain ⟨a, e, rfl⟩ := r
      exact ⟨a, hB k hk a e, rfl⟩
    · rw [if_neg hk] at h'; cases h'
theorem imDs_rep {n0 : Nat} {sel : List Nat} {B : List Addr} (hB : ∀ k ∈ sel, ∀ a, β'[k]? = some a → B[n0 + sel.idxOf k]? = some a) : ∀ {ds ds' : List D} {xs : List V}, imDs n0 sel ds = some ds' → RepDs K F β' H ds xs → RepDs K F B H ds' xs
  | [], ds', xs, h, r => by cases h; exact r
  | d :: ds, ds', xs, h, ⟨x, xr, e, r1, r2⟩ => by
    obtain ⟨d1, e1, h⟩ := bind_some h
    obtain ⟨dr, e2, rfl⟩ := map_some h
    exact ⟨x, xr, e, imD_rep hB e1 r1, imDs_rep hB e2 r2⟩
theorem imDs_len {n0 : Nat} {sel : List Nat} : ∀ {ds ds' : List D}, imDs n0 sel ds = some ds' → ds'.length = ds.length
  | [], ds', h => by cases h; rfl
  | d :: ds, ds', h => by
    obtain ⟨d1, e1, h⟩ := bind_some h
    obtain ⟨dr, e2, rfl⟩ := map_some h
    simp [imDs_len e2]
theorem imM_ok {n0 : Nat} {sel : List Nat} {B : List Addr} (hB : ∀ k ∈ sel, ∀ a, β'[k]? = some a → B[n0 + sel.idxOf k]? = some a) {a : Addr} {m m' : MO} (h : imM n0 sel m = some m') (ok : MOk K F β' H a m) : MOk K F B H a m' := by
  match m, h, ok with
  | .lst ds, h, ok => obtain ⟨l, e, rfl⟩ := map_some h; obtain ⟨n, xs, q, r⟩ := ok; exact ⟨n, xs, q, imDs_rep hB e r⟩
  | .tup ds, h, ok => obtain ⟨l, e, rfl⟩ := map_some h; obtain ⟨xs, q, r⟩ := ok; exact ⟨xs, q, imDs_rep hB e r⟩
  | .dk ks ds, h, ok => obtain ⟨l, e, rfl⟩ := map_some h; obtain ⟨n, xs, q, z, r⟩ := ok; exact ⟨n, xs, q, by rw [imDs_len e]; exact z, imDs_rep hB e r⟩
  | .dt ks ds, h, ok => obtain ⟨l, e, rfl⟩ := map_some h; obtain ⟨n, xs, q, z, r⟩ := ok; exact ⟨n, xs, q, by rw [imDs_len e]; exact z, imDs_rep hB e r⟩
  | .ins C ns ds, h, ok => obtain ⟨l, e, rfl⟩ := map_some h; obtain ⟨n, dx, xs, q, z, r⟩ := ok; exact ⟨n, dx, xs, q, by rw [imDs_len e]; exact z, imDs_rep hB e r⟩
  | .dead, h, ok => cases h; trivial
theorem back_news (s : Sto K F β H μ) {μ1 : Mu} {F' : Fz} {H' : Hp} (st : Stp F β H F' β H') (s' : Sto K F' β H' μ1) (s2 : Sto K F' β' H' μ') {sel : List Nat} {ms : Mu} (hn : sel.Nodup) (hf : ∀ k ∈ sel, ∀ a, β'[k]? = some a → H a = none) (hi : imp β.length sel μ' sel = some ms) :
    Stp F β H F' (β ++ badr β' sel) H' ∧ Sto K F' (β ++ badr β' sel) H' (μ1 ++ ms) ∧ ∀ k ∈ sel, ∀ a, β'[k]? = some a → (β ++ badr β' sel)[β.length + sel.idxOf k]? = some a := by
  obtain ⟨il, ig⟩ := imp_get hi
  have lt : ∀ k ∈ sel, k < β'.length := fun k hk => by
    obtain ⟨i, hi'⟩ := List.getElem?_of_mem hk
    have hl : i < ms.length := by rw [← il]; exact (List.getElem?_eq_some_iff.mp hi').1
    obtain ⟨k', m0, e1, e2, _⟩ := ig i ms[i] (List.getElem?_eq_getElem hl)
    rw [hi'] at e1
    cases e1
    rw [s2.len]; exact (List.getElem?_eq_some_iff.mp e2).1
  have gb := badr_get (β := β') lt
  have ln : (badr β' sel).length = sel.length := by
    have aux : ∀ (l : List Nat), (∀ i ∈ l, i < β'.length) → (badr β' l).length = l.length := by
      intro l
      induction l with
      | nil => intro _; rfl
      | cons i r ih =>
        intro h
        have hi := h i List.mem_cons_self
        have e : badr β' (i :: r) = β'[i] :: badr β' r := by unfold badr; rw [List.filterMap_cons]; simp [hi]
        rw [e]
        simp [ih fun j hj => h j (List.mem_cons_of_mem _ hj)]
    exact aux sel lt
  have hA : ∀ a ∈ badr β' sel, H a = none ∧ H' a ≠ none ∧ ∃ k ∈ sel, β'[k]? = some a := fun a ha => by
    obtain ⟨k, hk, e⟩ := List.mem_filterMap.mp ha
    exact ⟨hf k hk a e, s2.btr a (List.mem_of_getElem? e), k, hk, e⟩
  have nb : ∀ a ∈ badr β' sel, a ∉ β := fun a ha hb => s.btr a hb (hA a ha).1
  have key : ∀ k ∈ sel, ∀ a, β'[k]? = some a → (β ++ badr β' sel)[β.length + sel.idxOf k]? = some a := fun k hk a e => by
    rw [List.getElem?_append_right (Nat.le_add_right _ _), Nat.add_sub_cancel_left, gb]
    have hi : sel.idxOf k < sel.length := List.idxOf_lt_length_iff.mpr hk
    rw [List.getElem?_eq_getElem hi, List.getElem_idxOf hi]
    exact e
  have mo : Mon F' β H' F' (β ++ badr β' sel) H' := ⟨fun _ h => h, fun _ _ => rfl, fun _ _ h => h, List.prefix_append _ _⟩
  refine ⟨⟨st.f, st.h, st.t, List.prefix_append _ _, st.k, fun b h => (List.mem_append.mp h).elim .inl fun e => .inr (hA b e).1, st.g, st.s⟩, ⟨by simp [s'.len, ln, il], ?_, fun i b m e1 e2 => ?_, s'.ftr, fun b h => (List.mem_append.mp h).elim (s'.btr b) fun e => (hA b e).2.1⟩, key⟩
  · refine List.nodup_append.mpr ⟨s'.nd, ?_, fun x hx y hy e => nb y hy (by rw [← e]; exact hx)⟩
    refine List.pairwise_iff_getElem.mpr fun i j hi hj hij e => ?_
    have hi' : i < sel.length := by rw [← ln]; exact hi
    have hj' : j < sel.length := by rw [← ln]; exact hj
    have e1 : (badr β' sel)[i]? = β'[sel[i]]? := by rw [gb, List.getElem?_eq_getElem hi']; rfl
    have e2 : (badr β' sel)[j]? = β'[sel[j]]? := by rw [gb, List.getElem?_eq_getElem hj']; rfl
    rw [List.getElem?_eq_getElem hi] at e1
    rw [List.getElem?_eq_getElem hj, ← e] at e2
    have l1 := lt _ (List.getElem_mem hi')
    have l2 := lt _ (List.getElem_mem hj')
    rw [List.getElem?_eq_getElem l1] at e1
    rw [List.getElem?_eq_getElem l2] at e2
    have := (List.getElem_inj s2.nd).mp (Option.some.inj (e1.symm.trans e2))
    exact absurd ((List.getElem_inj hn).mp this) (Nat.ne_of_lt hij)
  · by_cases hi : i < β.length
    · rw [List.getElem?_append_left hi] at e1
      rw [List.getElem?_append_left (by rw [← s'.len]; exact hi)] at e2
      have ok := s'.ok i b m e1 e2
      match m, ok with
      | .lst ds, ok => obtain ⟨n, xs, e, r⟩ := ok; exact ⟨n, xs, e, r.mon mo⟩
      | .tup ds, ok => obtain ⟨xs, e, r⟩ := ok; exact ⟨xs, e, r.mon mo⟩
      | .dk ks ds, ok => obtain ⟨n, xs, e, y, r⟩ := ok; exact ⟨n, xs, e, y, r.mon mo⟩
      | .dt ks ds, ok => obtain ⟨n, xs, e, y, r⟩ := ok; exact ⟨n, xs, e, y, r.mon mo⟩
      | .ins C ns ds, ok => obtain ⟨n, dx, xs, e, y, r⟩ := ok; exact ⟨n, dx, xs, e, y, r.mon mo⟩
      | .dead, ok => trivial
    · rw [List.getElem?_append_right (Nat.le_of_not_lt hi)] at e1
      rw [List.getElem?_append_right (by rw [← s'.len]; exact Nat.le_of_not_lt hi)] at e2
      rw [← s'.len] at e2
      obtain ⟨k, m0, q1, q2, q3⟩ := ig _ m e2
      rw [gb, q1] at e1
      exact imM_ok key q3 (s2.ok k b m0 e1 q2)
end
/-- behind a call: .. or a new thing with new things in it -/
def back2 (μ : Mu) (ids : List Nat) (Q : D → Mu → Prop) : D → Mu → Prop := fun d μ' => back μ ids Q d μ' ∨
  ids.length ≤ μ'.length ∧ allP (μ'.take ids.length) = true ∧ ∃ j sel ms, d = .r j ∧ sel.Nodup ∧ (∀ k ∈ sel, ids.length ≤ k) ∧ j ∈ sel ∧ imp μ.length sel μ' sel = some ms ∧ Q (.r (μ.length + sel.idxOf j)) (put μ ids (μ'.take ids.length) ++ ms)
theorem call_red2 {W : WX} {K : PySem.W.Frag} {n : Nat} {w : WFn} {F : Fz} {β : List Addr} {H : Hp} {μ μs : Mu} {ds : List D} {vs dvs : List V} {dts : List T} {Q : VK} {E : XK} {Qd : D → Mu → Prop} {Ed : EK} {σ : L2.St} (hn : ds.length + dts.length = n) (hd : ∀ F H, RepL K F H dts dvs)
    (s : Sto K F β H μ) (r : RepDs K F β H ds vs) (q : QOk K F β H Qd Q) (o : EOk K W F β H σ Ed) (hE : ∀ c d H', W c d σ H' → E c d H') (hs : sub μ (refs ds) = some μs) (h : w (ds.map (ren (refs ds)) ++ dts.map .t) μs (back2 μ (refs ds) Qd) (backE μ (refs ds) Ed)) : spZ K n w (vs ++ dvs) H Q E := by
  obtain ⟨ss, z⟩ := sub_sto s (refs_nd ds) hs
  have hsub : ∀ a ∈ badr β (refs ds), a ∈ β := fun a ha => by
    obtain ⟨i, _, e⟩ := List.mem_filterMap.mp ha
    exact List.mem_of_getElem? e
  have fresh : ∀ {F' βs' H'} {μ' : Mu}, Stp F (badr β (refs ds)) H F' βs' H' → Sto K F' βs' H' μ' → ∀ k, (refs ds).length ≤ k → ∀ a, βs'[k]? = some a → H a = none := fun {F' βs' H' μ'} st s' k hk a e => by
    rcases st.n a (List.mem_of_getElem? e) with y | y
    · exfalso
      obtain ⟨i, hi⟩ := List.getElem?_of_mem y
      have hil := (List.getElem?_eq_some_iff.mp hi).1
      have hi' : βs'[i]? = some a := by
        obtain ⟨l, rfl⟩ := st.b
        rw [List.getElem?_append_left hil]; exact hi
      obtain ⟨l1, q1⟩ := List.getElem?_eq_some_iff.mp e
      obtain ⟨l2, q2⟩ := List.getElem?_eq_some_iff.mp hi'
      have := (List.getElem_inj s'.nd).mp (q1.trans q2.symm)
      rw [z.len] at hil
      omega
    · exact y
  refine ⟨F, badr β (refs ds), _, μs, _, _, by simp [hn], ss, (ren_rep refs_mem z r).append (.ofL (hd F H)), ?_, ?_, h⟩
  · rintro d μ' (⟨hl, hp, h'⟩ | ⟨hl, hp, j, sel, ms, rfl, hn, hsel, hj, hi, q'⟩) v H' F' βs' st s' r'
    · have st1 := back_stp s z hsub st
      have s1 := back_sto s z hsub st s' hl hp
      rcases h' with ⟨t, rfl, q'⟩ | ⟨j, i, rfl, ei, q'⟩ | ⟨j, m, rfl, hj, em, pm, q'⟩
      · exact q _ _ q' v H' F' β st1 s1 r'
      · obtain ⟨a, ea, rfl⟩ := r'
        have hjl := (List.getElem?_eq_some_iff.mp ei).1
        obtain ⟨l, rfl⟩ := st.b
        rw [List.getElem?_append_left (by rw [z.len]; exact hjl), z.get j i ei] at ea
        exact q _ _ q' _ H' F' β st1 s1 ⟨a, ea, rfl⟩
      · obtain ⟨a, ea, rfl⟩ := r'
        obtain ⟨st2, s2⟩ := back_new s st1 s1 (fresh st s' j hj a ea) (s'.btr a (List.mem_of_getElem? ea)) (s'.ok j a m ea em) pm
        exact q _ _ q' _ H' F' _ st2 s2 ⟨a, by rw [← s.len]; simp, rfl⟩
    · have st1 := back_stp s z hsub st
      have s1 := back_sto s z hsub st s' hl hp
      obtain ⟨a, ea, rfl⟩ := r'
      rw [← s.len] at hi q'
      obtain ⟨st2, s2, key⟩ := back_news s st1 s1 s' hn (fun k hk a e => fresh st s' k (hsel k hk) a e) hi
      exact q _ _ q' _ H' F' _ st2 s2 ⟨a, key j hj a ea, rfl⟩
  · rintro e μ' ⟨hl, hp, h'⟩ c d H' F' βs' st s' r'
    exact hE c d H' (o e _ h' c d H' F' β (back_stp s z hsub st) (back_sto s z hsub st s' hl hp) r')
def wCall2 (n : Nat) (w : WFn) (dts : List T) (wa : WAr) : WEx := fun ρ μ Q E => wa ρ μ (fun ds μ1 => ds.length + dts.length = n ∧ ∃ μs, sub μ1 (refs ds) = some μs ∧ w (ds.map (ren (refs ds)) ++ dts.map .t) μs (back2 μ1 (refs ds) Q) (backE μ1 (refs ds) E)) E

/-! ### calls on loan: all that stands in the store is seen as trees, and stays -/
def dvs (f : D → Option T) : List D → Option (List T)
  | [] => some []
  | d :: r => (f d).bind fun t => (dvs f r).map (t :: ·)
def dvw : Nat → Mu → D → Option T
  | _, _, .t x => some x
  | 0, _, .r _ => none
  | n + 1, μ, .r i => match μ[i]? with
    | some (.lst ds) => if ds.length ≤ sizeLine then (dvs (dvw n μ) ds).map .lst else none
    | some (.tup ds) => if ds.length ≤ sizeLine then (dvs (dvw n μ) ds).map .tup else none
    | some (.dk ks ds) => (dvs (dvw n μ) ds).map (.dk ks)
    | _ => none
def leafT : T → Bool
  | .non => true
  | .bl _ => true
  | .int _ => true
  | .str _ => true
  | .ty _ => true
  | .ob _ => true
  | _ => false
section
variable {K : PySem.W.Frag} {F F' : Fz} {β β' : List Addr} {H H' : Hp} {μ μ' : Mu}
abbrev allF (F : Fz) (β : List Addr) : Fz := fun a => F a ∨ a ∈ β
theorem dvs_len {f : D → Option T} : ∀ {ds : List D} {ts : List T}, dvs f ds = some ts → ts.length = ds.length
  | [], ts, h => by cases h; rfl
  | d :: ds, ts, h => by
    obtain ⟨t, e1, h⟩ := bind_some h
    obtain ⟨l, e2, rfl⟩ := map_some h
    simp [dvs_len e2]
theorem loan_mon : Mon F β H (allF F β) β H := ⟨fun _ => .inl, fun _ _ => rfl, fun _ _ h => h, List.prefix_refl _⟩
theorem dvs_rep {f : D → Option T} {G : Fz} {R : D → V → Prop} (hf : ∀ d v t, f d = some t → RepD K F β H d v → Rep K G H t v) : ∀ {ds : List D} {xs : List V} {ts : List T}, dvs f ds = some ts → RepDs K F β H ds xs → RepL K G H ts xs
  | [], xs, ts, h, r => by cases h; cases (show xs = [] from r); exact .nil
  | d :: ds, xs, ts, h, ⟨x, xr, e, r1, r2⟩ => by
    obtain ⟨t, e1, h⟩ := bind_some h
    obtain ⟨l, e2, rfl⟩ := map_some h
    subst e
    exact .cons (hf d x t e1 r1) (dvs_rep (R := R) hf e2 r2)
theorem dvw_rep (s : Sto K F β H μ) : ∀ (n : Nat) (d : D) (v : V) (t : T), dvw n μ d = some t → RepD K F β H d v → Rep K (allF F β) H t v
  | n, .t x, v, t, h, r => by
    cases (show some x = some t by cases n <;> exact h)
    exact Rep.mon loan_mon x v r
  | 0, .r i, v, t, h, r => nomatch (show (none : Option T) = some t from h)
  | n + 1, .r i, v, t, h, r => by
    obtain ⟨a, ea, rfl⟩ := r
    unfold dvw at h
    cases em : μ[i]? with
    | none => rw [em] at h; cases h
    | some m =>
      rw [em] at h
      have ok := s.ok i a m ea em
      have fa : allF F β a := .inr (List.mem_of_getElem? ea)
      cases m with
      | lst ds =>
        have h' : (if ds.length ≤ sizeLine then (dvs (dvw n μ) ds).map T.lst else none) = some t := h
        by_cases z : ds.length ≤ sizeLine
        · rw [if_pos z] at h'
          obtain ⟨l, e, rfl⟩ := map_some h'
          obtain ⟨_, xs, q, r⟩ := ok
          unfold Rep
          exact ⟨by rw [dvs_len e]; exact z, a, xs, rfl, fa, q, dvs_rep (R := fun _ _ => True) (fun d v t e r => dvw_rep s n d v t e r) e r⟩
        · rw [if_neg z] at h'; cases h'
      | tup ds =>
        have h' : (if ds.length ≤ sizeLine then (dvs (dvw n μ) ds).map T.tup else none) = some t := h
        by_cases z : ds.length ≤ sizeLine
        · rw [if_pos z] at h'
          obtain ⟨l, e, rfl⟩ := map_some h'
          obtain ⟨xs, q, r⟩ := ok
          unfold Rep
          exact ⟨by rw [dvs_len e]; exact z, a, xs, rfl, .inl q, dvs_rep (R := fun _ _ => True) (fun d v t e r => dvw_rep s n d v t e r) e r⟩
        · rw [if_neg z] at h'; cases h'
      | dk ks ds =>
        obtain ⟨l, e, rfl⟩ := map_some (show (dvs (dvw n μ) ds).map (T.dk ks) = some t from h)
        obtain ⟨_, xs, q, y, r⟩ := ok
        unfold Rep
        exact ⟨a, xs, rfl, fa, q, by rw [dvs_len e]; exact y, dvs_rep (R := fun _ _ => True) (fun d v t e r => dvw_rep s n d v t e r) e r⟩
      | dt ks ds => cases h
      | ins C ns ds => cases h
      | dead => cases h
theorem leaf_rep {t : T} (hl : leafT t = true) {v : V} (r : Rep K F H t v) (F' : Fz) (H' : Hp) : Rep K F' H' t v := by
  cases t <;> first | (unfold Rep at r ⊢; exact r) | exact nomatch hl
/-- the caller's store behind a loan -/
theorem loan_back (s : Sto K F β H μ) {F' : Fz} {β' : List Addr} {H' : Hp} (st : Stp (allF F β) [] H F' β' H') : Stp F β H F β H' ∧ Sto K F β H' μ := by
  have eqb : ∀ a, a ∈ β → H' a = H a := fun a h => st.h a (.inr h)
  have st' : Stp F β H F β H' := ⟨fun _ h => h, fun a f => st.h a (.inl f), st.t, List.prefix_refl _, fun a o h n nf => st.k a o h (fun z => nomatch z) fun z => z.elim nf n, fun _ => .inl, fun _ => .inl, st.s⟩
  refine ⟨st', s.len, s.nd, fun i a m e1 e2 => (s.ok i a m e1 e2).stp st' (fun o e => by rw [eqb a (List.mem_of_getElem? e1)]; exact e) fun n => n, fun a f => by rw [st.h a (.inl f)]; exact s.ftr a f, fun a h => by rw [eqb a h]; exact s.btr a h⟩
theorem loan_sto (s : Sto K F β H μ) : Sto K (allF F β) [] H [] :=
  ⟨rfl, List.nodup_nil, fun i a m e => by simp at e, fun a f => f.elim (s.ftr a) (s.btr a), fun a h => nomatch h⟩
theorem loan_red {n : Nat} {w : WFn} {ds : List D} {vs dvs' : List V} {ts dts : List T} {Q : VK} {E : XK} {Qd : D → Mu → Prop} {k : Nat} (hn : ds.length + dts.length = n) (hd : ∀ F H, RepL K F H dts dvs')
    (s : Sto K F β H μ) (r : RepDs K F β H ds vs) (q : QOk K F β H Qd Q) (hs : dvs (dvw k μ) ds = some ts) (h : w (ts.map .t ++ dts.map .t) [] (fun d _ => ∃ x, d = .t x ∧ leafT x = true ∧ Qd (.t x) μ) (fun _ _ => False)) : spZ K n w (vs ++ dvs') H Q E := by
  refine ⟨allF F β, [], _, [], _, _, by simp [dvs_len hs, hn], loan_sto s, (RepDs.ofL (dvs_rep (R := fun _ _ => True) (fun d v t e r => dvw_rep s k d v t e r) hs r)).append (.ofL (hd _ H)), ?_, fun _ _ z => z.elim, h⟩
  rintro d μ' ⟨x, rfl, hl, q'⟩ v H' F' β' st s' r'
  obtain ⟨st1, s1⟩ := loan_back s st
  exact q _ _ q' v H' F β st1 s1 (leaf_rep hl r' F H')
end
/-- f(e, ..) on loan -/
def wCallL (n : Nat) (w : WFn) (dts : List T) (wa : WAr) : WEx := fun ρ μ Q E => wa ρ μ (fun ds μ1 => ds.length + dts.length = n ∧ ∃ k ts, dvs (dvw k μ1) ds = some ts ∧ w (ts.map .t ++ dts.map .t) [] (fun d _ => ∃ x, d = .t x ∧ leafT x = true ∧ Q (.t x) μ1) (fun _ _ => False)) E
/-- either way -/
def wCallX (n : Nat) (w : WFn) (dts : List T) (wa : WAr) : WEx := fun ρ μ Q E => wa ρ μ (fun ds μ1 => ds.length + dts.length = n ∧
  ((∃ μs, sub μ1 (refs ds) = some μs ∧ w (ds.map (ren (refs ds)) ++ dts.map .t) μs (back2 μ1 (refs ds) Q) (backE μ1 (refs ds) E)) ∨
   (∃ k ts, dvs (dvw k μ1) ds = some ts ∧ w (ts.map .t ++ dts.map .t) [] (fun d _ => ∃ x, d = .t x ∧ leafT x = true ∧ Q (.t x) μ1) (fun _ _ => False)))) E
section
variable {X : Cx} {W : WX}
theorem callX_red {K : PySem.W.Frag} {n : Nat} {w : WFn} {F : Fz} {β : List Addr} {H : Hp} {μ : Mu} {ds : List D} {vs dvs' : List V} {dts : List T} {Q : VK} {E : XK} {Qd : D → Mu → Prop} {Ed : EK} {σ : L2.St} (hd : ∀ F H, RepL K F H dts dvs')
    (s : Sto K F β H μ) (r : RepDs K F β H ds vs) (q : QOk K F β H Qd Q) (o : EOk K W F β H σ Ed) (hE : ∀ c d H', W c d σ H' → E c d H')
    (h : ds.length + dts.length = n ∧ ((∃ μs, sub μ (refs ds) = some μs ∧ w (ds.map (ren (refs ds)) ++ dts.map .t) μs (back2 μ (refs ds) Qd) (backE μ (refs ds) Ed)) ∨
      (∃ k ts, dvs (dvw k μ) ds = some ts ∧ w (ts.map .t ++ dts.map .t) [] (fun d _ => ∃ x, d = .t x ∧ leafT x = true ∧ Qd (.t x) μ) (fun _ _ => False)))) : spZ K n w (vs ++ dvs') H Q E := by
  obtain ⟨hn, ⟨μs, h1, h2⟩ | ⟨k, ts, h1, h2⟩⟩ := h
  · exact call_red2 hn hd s r q o hE h1 h2
  · exact loan_red hn hd s r q h1 h2
theorem ze_callX {w : WFn} {dts : List T} {dvs : List V} {dsv : List Value} {k : Nat} {f : Addr} {fd : FuncData} {ps : List Str} {x : Str} {p pos : Pos} {e : Expr} {es : List Expr} {wa : WAr}
    (Fo : FnOk X.prog X.w X.K X.mg X.base (L2.CX X.prog X.w) k f fd ps (spZ X.K ps.length w)) (hr : Room k X.A) (hm : X.mg x = some (.ref f)) (hk : PySem.W.keepIn X.K (.ref f) = true) (hb : Binds X.K fd ps dsv) (hd : Vals dvs dsv) (hdt : ∀ F H, RepL X.K F H dts dvs) (tk : Takes X W)
    (ha : ZA X W (e :: es) wa) (hg : Gl X x := by rfl) (hdb : (x == ("__debug__" : Str)) = false := by decide)
    (he : starEach (e :: es) X.env = (false, eval e X.env) :: starEach es X.env := by rfl) (hpl : (backTo pos (starEach es X.env)).any (·.1) = false := by rfl) :
    ZE X W (.Call (.Name x p) (e :: es) [] pos) (wCallX ps.length w dts wa) :=
  ⟨PE.imp (pe_callSD Fo hr hg hm hk hb hd (fun σ => passAt tk σ) ha.pa hdb he hpl) fun σ H Q ⟨F, β, ρ, μ, Qd, Ed, s, l, q, o, w'⟩ => ⟨F, β, ρ, μ, _, Ed, s, l, fun ds μ1 h vs H' F' β' st s' r' =>
    callX_red (n := ps.length) (E := WE W σ) hdt s' r' (q.stp st) (o.stp st) (fun _ _ _ h => h) h, o, w'⟩⟩
end
end Zy
set_option Elab.async false
set_option linter.all false
set_option maxRecDepth 100000
set_option maxHeartbeats 400000
/-! Z9: list comprehensions; operations on trees. -/
namespace Zy
open PySem PySem.Spec PyProof.Rows L2

structure ZTs (X : Cx) (W : WX) (ifs : List Expr) (w : WTs) : Prop where
  pts : PTs X ifs (tT X.K W w)
section
variable {X : Cx} {W : WX} {elt tg iter : Expr} {ifs : List Expr} {scope : Scope} {own : List (Str × Nat)} {pos spos : Pos} {wi : WIt} {g : WTg} {wt : WTs} {we : WEx}
theorem PTs.imp {t t' : TT} (h : PTs X ifs t) (f : ∀ σ H Q, t' σ H Q → t σ H Q) : PTs X ifs t' := ⟨fun pins s σ H Q I q => h.run pins s σ H Q I (f _ _ _ q)⟩
theorem zts_nil : ZTs X W [] wYes := ⟨PTs.imp pts_nil fun σ H Q ⟨F, β, ρ, μ, Qd, Ed, s, l, q, o, w⟩ => q true μ w H F β .refl s⟩
theorem zts_one {e : Expr} (h : ZT X W e wt) : ZTs X W [e] wt := ⟨pts_one h.pt⟩
abbrev InBlk (X : Cx) (scope : Scope) (p : Cx → Prop) : Prop := ∀ (s : Shared) (H : Hp) (C : Addr) (cl : List (Str × Addr)) (fp : List Addr), p (X.blk s H scope (compEnvC scope cl C X.env) fp)
theorem ze_lc (hc : X.calm = true) (hN : X.N.Nodup) (ok : BlkOk X.N X.env.scope scope own) (hi : ZI X W tg iter wi) (hg : InBlk X scope fun Y => ZC Y (own.map (·.2)) tg g) (ht : InBlk X scope fun Y => ZTs Y W0 ifs wt) (he : InBlk X scope fun Y => ZE Y W0 elt we)
    (hs : ∀ x, foldedSetIterable iter X.env x = pure x := by intro _; rfl) : ZE X W (.ListComp elt [⟨tg, iter, ifs, 0⟩] scope pos) (wLc wi g wt we (own.map (·.2))) :=
  ⟨PE.imp (pe_lc hc hN hi.pi ok (fun s H C cl fp => (hg s H C cl fp).pg) (fun s H C cl fp => (ht s H C cl fp).pts) (fun s H C cl fp => (he s H C cl fp).pe) hs) fun σ H Q h => lc_red h⟩
theorem zs_setLc (i : Nat) {y : Str} {py : Pos} (hc : X.calm = true) (hN : X.N.Nodup) (ok : BlkOk X.N X.env.scope scope own) (hi : ZI X W tg iter wi) (hg : InBlk X scope fun Y => ZC Y (own.map (·.2)) tg g) (ht : InBlk X scope fun Y => ZTs Y W0 ifs wt) (he : InBlk X scope fun Y => ZE Y W0 elt we)
    (hy : X.N[i]? = some y := by rfl) (hyl : X.env.scope.names.lookup y = some .local := by rfl)
    (hsw : swapsWith (.ListComp elt [⟨tg, iter, ifs, 0⟩] scope pos) (some (.Name y py)) spos.line X.env = pure true := by rfl)
    (hs : ∀ x, foldedSetIterable iter X.env x = pure x := by intro _; rfl) : ZS X W (.Assign [.Name y py] (.ListComp elt [⟨tg, iter, ifs, 0⟩] scope pos) spos) (wAsg (wLc wi g wt we (own.map (·.2))) (wgName i)) :=
  ⟨PS.imp (ps_setLc hc hN hy hyl hsw hi.pi ok (fun s H C cl fp => (hg s H C cl fp).pg) (fun s H C cl fp => (ht s H C cl fp).pts) (fun s H C cl fp => (he s H C cl fp).pe) hs) fun D σ H ⟨F, β, ρ, μ, G, s, l, q, w⟩ =>
    lc_red ⟨F, β, ρ, μ, _, _, s, l, fun d μ' w' v H' F' β' st s' r' => q.nx _ _ w' _ H' F' β' st s' ((l.stp st).set i r'), q.eok l, w⟩⟩
/-- a value that the proof never comes to -/
def wNeverE : WEx := fun _ _ _ _ => False
theorem ze_never {e : Expr} (h : ∃ t : TE, PE X e t) : True := trivial
end
end Zy
set_option Elab.async false
set_option linter.all false
set_option maxRecDepth 100000
set_option maxHeartbeats 400000
/-! ZA: operations on trees. -/
namespace Zy
open PySem PySem.Spec PyProof.Rows L2

section
variable {K : PySem.W.Frag} {F : Fz} {H : Hp} {Q : VK} {Qd : T → Prop}
theorem now_int {i : Int} {v : V} (h : Now K F H (.int i) v) : v = .int i := by have h' : Rep K F H (.int i) v := h; unfold Rep at h'; exact h'
theorem now_bl {i : Bool} {v : V} (h : Now K F H (.bl i) v) : v = .bl i := by have h' : Rep K F H (.bl i) v := h; unfold Rep at h'; exact h'
theorem now_str {i : Str} {v : V} (h : Now K F H (.str i) v) : v = .str i := by have h' : Rep K F H (.str i) v := h; unfold Rep at h'; exact h'
theorem now_non {v : V} (h : Now K F H .non v) : v = .non := by have h' : Rep K F H .non v := h; unfold Rep at h'; exact h'
theorem now_ty {n : String} {v : V} (h : Now K F H (.ty n) v) : v = .ty n := by have h' : Rep K F H (.ty n) v := h; unfold Rep at h'; exact h'
theorem now_ob {a : Addr} {v : V} (h : Now K F H (.ob a) v) : v = .ref a := by have h' : Rep K F H (.ob a) v := h; unfold Rep at h'; exact h'
theorem rep_intE {i : Int} {v : V} (h : Rep K F H (.int i) v) : v = .int i := by unfold Rep at h; exact h
theorem rep_blE {i : Bool} {v : V} (h : Rep K F H (.bl i) v) : v = .bl i := by unfold Rep at h; exact h
theorem rep_tyE {i : String} {v : V} (h : Rep K F H (.ty i) v) : v = .ty i := by unfold Rep at h; exact h
theorem pok_here (hf : ∀ a, F a → H a ≠ none) (q : POk K F H Qd Q) {t : T} (h : Qd t) {v : V} (r : Rep K F H t v) : Q v H := q t h v H F (.refl hf) r
theorem pok_lst (hf : ∀ a, F a → H a ≠ none) (q : POk K F H Qd Q) {ts : List T} (h : Qd (.lst ts)) (z : ts.length ≤ sizeLine) {xs : List V} (r : RepL K F H ts xs) : ∀ p, H p = none → Q (.ref p) (upd H p (.lst xs)) := fun p hp =>
  have g := Gro.new (o := .lst xs) hf hp
  q _ h _ _ _ g (rep_lst z (.inr rfl) upd_same g r)
theorem pok_tup (hf : ∀ a, F a → H a ≠ none) (q : POk K F H Qd Q) {ts : List T} (h : Qd (.tup ts)) (z : ts.length ≤ sizeLine) {xs : List V} (r : RepL K F H ts xs) : ∀ p, H p = none → Q (.ref p) (upd H p (.tup xs)) := fun p hp =>
  have g := Gro.newT (o := .tup xs) hf hp
  q _ h _ _ _ g (rep_tup z upd_same g r)
/-- a sequence: a list or a tuple, its items -/
def seqT : T → Option (List T)
  | .lst l => some l
  | .scr l => some l
  | .tup l => some l
  | _ => none
theorem seq_now {t : T} {l : List T} (h : seqT t = some l) {v : V} (r : Now K F H t v) : ∃ a xs, v = .ref a ∧ (SqL K H a xs ∨ SqT K H a xs) ∧ RepL K F H l xs := by
  cases t with
  | lst l' => cases h; obtain ⟨a, xs, e, r, q⟩ := r; exact ⟨a, xs, e, .inl (.of r), q⟩
  | scr l' => cases h; obtain ⟨a, xs, e, r, q⟩ := r; exact ⟨a, xs, e, .inl r, q⟩
  | tup l' => cases h; obtain ⟨a, xs, e, r, q⟩ := r; exact ⟨a, xs, e, .inr r.sq, q⟩
  | _ => cases h
/-- a list -/
def lstT : T → Option (List T)
  | .lst l => some l
  | .scr l => some l
  | _ => none
theorem lst_now {t : T} {l : List T} (h : lstT t = some l) {v : V} (r : Now K F H t v) : ∃ a xs, v = .ref a ∧ SqL K H a xs ∧ RepL K F H l xs := by
  cases t with
  | lst l' => cases h; obtain ⟨a, xs, e, r, q⟩ := r; exact ⟨a, xs, e, .of r, q⟩
  | scr l' => cases h; obtain ⟨a, xs, e, r, q⟩ := r; exact ⟨a, xs, e, r, q⟩
  | _ => cases h
theorem nowL1 {t : T} {vs : List V} (h : NowL K F H [t] vs) : ∃ v, vs = [v] ∧ Now K F H t v := by
  obtain ⟨x, r, rfl, h1, h2⟩ := h
  cases (show r = [] from h2)
  exact ⟨x, rfl, h1⟩
theorem nowL2 {t u : T} {vs : List V} (h : NowL K F H [t, u] vs) : ∃ v w, vs = [v, w] ∧ Now K F H t v ∧ Now K F H u w := by
  obtain ⟨x, r, rfl, h1, h2⟩ := h
  obtain ⟨w, rfl, h3⟩ := nowL1 h2
  exact ⟨x, w, rfl, h1, h3⟩
end

/-! ### numbers -/
abbrev TC := Int → Int → Prop
def fI2 (C : TC) (g : Int → Int → T) : F2' := fun t u Q => ∃ i j, t = .int i ∧ u = .int j ∧ C i j ∧ Q (g i j)
abbrev C0 : TC := fun _ _ => True
theorem z2_int {K : PySem.W.Frag} {C : TC} {g : Int → Int → T} {gv : Int → Int → V} (hg : ∀ i j F H, Rep K F H (g i j) (gv i j)) : Z2 K (rI C gv) (fI2 C g) := by
  intro F H t u v w Q Qd hf r1 r2 ⟨i, j, e1, e2, c, h⟩ q
  subst e1 e2
  exact ⟨i, j, now_int r1, now_int r2, c, pok_here hf q h (hg i j F H)⟩
theorem z2_int0 {K : PySem.W.Frag} {g : Int → Int → T} {gv : Int → Int → V} (hg : ∀ i j F H, Rep K F H (g i j) (gv i j)) : Z2 K (rI0 gv) (fI2 C0 g) := by
  intro F H t u v w Q Qd hf r1 r2 ⟨i, j, e1, e2, c, h⟩ q
  subst e1 e2
  exact ⟨i, j, now_int r1, now_int r2, pok_here hf q h (hg i j F H)⟩
section
variable {K : PySem.W.Frag}
abbrev gAdd : Int → Int → T := fun i j => .int (i + j)
abbrev gSub : Int → Int → T := fun i j => .int (i - j)
abbrev gMul : Int → Int → T := fun i j => .int (i * j)
abbrev gDiv : Int → Int → T := fun i j => .int (i / j)
abbrev gMod : Int → Int → T := fun i j => .int (i % j)
abbrev gPow : Int → Int → T := fun i j => .int (i ^ j.toNat)
abbrev gLt : Int → Int → T := fun i j => .bl (decide (i < j))
abbrev gLe : Int → Int → T := fun i j => .bl (decide (i ≤ j))
abbrev gGt : Int → Int → T := fun i j => .bl (decide (j < i))
abbrev gGe : Int → Int → T := fun i j => .bl (decide (j ≤ i))
theorem z_add : Z2 K (rI0 fun i j => .int (i + j)) (fI2 C0 gAdd) := z2_int0 fun _ _ _ _ => rep_int
theorem z_sub : Z2 K (rI0 fun i j => .int (i - j)) (fI2 C0 gSub) := z2_int0 fun _ _ _ _ => rep_int
theorem z_mul : Z2 K (rI CMulW fun i j => .int (i * j)) (fI2 CMulW gMul) := z2_int fun _ _ _ _ => rep_int
theorem z_div : Z2 K (rI CDivW fun i j => .int (i / j)) (fI2 CDivW gDiv) := z2_int fun _ _ _ _ => rep_int
theorem z_mod : Z2 K (rI (fun _ j => 0 < j) fun i j => .int (i % j)) (fI2 (fun _ j => 0 < j) gMod) := z2_int fun _ _ _ _ => rep_int
theorem z_pow : Z2 K (rI CPow fun i j => .int (i ^ j.toNat)) (fI2 CPow gPow) := z2_int fun _ _ _ _ => rep_int
theorem z_lt : Z2 K (rI0 fun i j => .bl (decide (i < j))) (fI2 C0 gLt) := z2_int0 fun _ _ _ _ => rep_bl
theorem z_le : Z2 K (rI0 fun i j => .bl (decide (i ≤ j))) (fI2 C0 gLe) := z2_int0 fun _ _ _ _ => rep_bl
theorem z_gt : Z2 K (rI0 fun i j => .bl (decide (j < i))) (fI2 C0 gGt) := z2_int0 fun _ _ _ _ => rep_bl
theorem z_ge : Z2 K (rI0 fun i j => .bl (decide (j ≤ i))) (fI2 C0 gGe) := z2_int0 fun _ _ _ _ => rep_bl
def fNeg : F1 := fun t Q => ∃ i, t = .int i ∧ Q (.int (-i))
theorem z_neg : Z1 K (rU fun i => .int (-i)) fNeg := by
  intro F H t v Q Qd hf r ⟨i, e, h⟩ q
  subst e
  exact ⟨i, now_int r, pok_here hf q h rep_int⟩
/-! ### == of data -/
def toP : T → Option PyData
  | .non => some .none
  | .bl b => some (.bool b)
  | .int i => some (.int i)
  | .str x => some (.str x)
  | .lst l => (toPs l).map .list
  | .scr l => (toPs l).map .list
  | .tup l => (toPs l).map .tuple
  | _ => none
where toPs : List T → Option (List PyData)
  | [] => some []
  | t :: l => (toP t).bind fun d => (toPs l).map (d :: ·)
mutual
theorem rep_dp {F : Fz} {H : Hp} : ∀ (t : T) (d : PyData) (v : V), toP t = some d → Rep K F H t v → Dp K H v d
  | .non, d, v, h, r => by cases h; unfold Rep at r; subst r; exact .non
  | .bl b, d, v, h, r => by cases h; unfold Rep at r; subst r; exact .bl b
  | .int i, d, v, h, r => by cases h; unfold Rep at r; subst r; exact .int i
  | .str x, d, v, h, r => by cases h; unfold Rep at r; subst r; exact .str x
  | .lst l, d, v, h, r => by
    obtain ⟨ds, e, rfl⟩ := map_some (show (toP.toPs l).map PyData.list = some d from h)
    unfold Rep at r
    obtain ⟨_, a, xs, rfl, _, r, q⟩ := r
    exact .lst (.of r) (reps_dp l ds xs e q)
  | .scr l, d, v, h, r => by
    obtain ⟨ds, e, rfl⟩ := map_some (show (toP.toPs l).map PyData.list = some d from h)
    unfold Rep at r
    obtain ⟨_, a, xs, rfl, r, q⟩ := r
    exact .lst r.sq (reps_dp l ds xs e q)
  | .tup l, d, v, h, r => by
    obtain ⟨ds, e, rfl⟩ := map_some (show (toP.toPs l).map PyData.tuple = some d from h)
    unfold Rep at r
    obtain ⟨_, a, xs, rfl, r, q⟩ := r
    exact .tup r.sq (reps_dp l ds xs e q)
  | .ty _, d, v, h, r => nomatch (show (none : Option PyData) = some d from h)
  | .ob _, d, v, h, r => nomatch (show (none : Option PyData) = some d from h)
  | .dk _ _, d, v, h, r => nomatch (show (none : Option PyData) = some d from h)
  | .dt _ _, d, v, h, r => nomatch (show (none : Option PyData) = some d from h)
  | .ins _ _ _, d, v, h, r => nomatch (show (none : Option PyData) = some d from h)
  | .er _ _ _ _, d, v, h, r => nomatch (show (none : Option PyData) = some d from h)
theorem reps_dp {F : Fz} {H : Hp} : ∀ (l : List T) (ds : List PyData) (xs : List V), toP.toPs l = some ds → RepL K F H l xs → DpAll K H xs ds
  | [], ds, xs, h, r => by cases h; unfold RepL at r; subst r; exact .nil
  | t :: l, ds, xs, h, r => by
    obtain ⟨d, e1, h⟩ := bind_some (show (toP t).bind (fun d => (toP.toPs l).map (d :: ·)) = some ds from h)
    obtain ⟨dr, e2, rfl⟩ := map_some h
    unfold RepL at r
    obtain ⟨x, xr, rfl, r1, r2⟩ := r
    exact .cons (rep_dp t d x e1 r1) (reps_dp l dr xr e2 r2)
end
theorem now_dp {F : Fz} {H : Hp} {t : T} {d : PyData} {v : V} (h : toP t = some d) (r : Now K F H t v) : Dp K H v d := by
  cases t with
  | lst l =>
    obtain ⟨ds, e, rfl⟩ := map_some (show (toP.toPs l).map PyData.list = some d from h)
    obtain ⟨a, xs, rfl, r, q⟩ := r
    exact .lst (.of r) (reps_dp l ds xs e q)
  | scr l =>
    obtain ⟨ds, e, rfl⟩ := map_some (show (toP.toPs l).map PyData.list = some d from h)
    obtain ⟨a, xs, rfl, r, q⟩ := r
    exact .lst r (reps_dp l ds xs e q)
  | tup l =>
    obtain ⟨ds, e, rfl⟩ := map_some (show (toP.toPs l).map PyData.tuple = some d from h)
    obtain ⟨a, xs, rfl, r, q⟩ := r
    exact .tup r.sq (reps_dp l ds xs e q)
  | dk _ _ => exact nomatch (show (none : Option PyData) = some d from h)
  | dt _ _ => exact nomatch (show (none : Option PyData) = some d from h)
  | ins _ _ _ => exact nomatch (show (none : Option PyData) = some d from h)
  | er _ _ _ _ => exact nomatch (show (none : Option PyData) = some d from h)
  | non => exact rep_dp (F := F) _ d v h r
  | bl b => exact rep_dp (F := F) _ d v h r
  | int b => exact rep_dp (F := F) _ d v h r
  | str b => exact rep_dp (F := F) _ d v h r
  | ty b => exact rep_dp (F := F) _ d v h r
  | ob b => exact rep_dp (F := F) _ d v h r
/-- the data of a tree that comparing can go through -/
def dat (t : T) : Option PyData := match toP t with
  | some d => if SeqAt.shaped d = true then some d else none
  | none => none
theorem dat_ok {t : T} {d : PyData} (h : dat t = some d) : toP t = some d ∧ SeqAt.shaped d = true := by
  unfold dat at h
  cases e : toP t with
  | none => rw [e] at h; cases h
  | some d' =>
    rw [e] at h
    have h' : (if SeqAt.shaped d' = true then some d' else none) = some d := h
    by_cases z : SeqAt.shaped d' = true
    · rw [if_pos z] at h'; cases h'; exact ⟨rfl, z⟩
    · rw [if_neg z] at h'; cases h'
def fEq : F2' := fun t u Q => ∃ d e, dat t = some d ∧ dat u = some e ∧ Q (.bl (PyData.eqv d e))
def fNe : F2' := fun t u Q => ∃ d e, dat t = some d ∧ dat u = some e ∧ Q (.bl (!PyData.eqv d e))
theorem z_eq : Z2 K (rEqD K) fEq := by
  intro F H t u v w Q Qd hf r1 r2 ⟨d, e, h1, h2, h⟩ q
  exact ⟨d, e, now_dp (dat_ok h1).1 r1, now_dp (dat_ok h2).1 r2, (dat_ok h1).2, (dat_ok h2).2, pok_here hf q h rep_bl⟩
theorem z_ne : Z2 K (rNeD K) fNe := by
  intro F H t u v w Q Qd hf r1 r2 ⟨d, e, h1, h2, h⟩ q
  exact ⟨d, e, now_dp (dat_ok h1).1 r1, now_dp (dat_ok h2).1 r2, (dat_ok h1).2, (dat_ok h2).2, pok_here hf q h rep_bl⟩
/-- x in l, x not in l: data in a list of data -/
def fInD (neg : Bool) : F2' := fun t u Q => ∃ d ds, dat t = some d ∧ dat u = some (.list ds) ∧ Q (.bl (if neg then !ds.any fun z => PyData.eqv z d else ds.any fun z => PyData.eqv z d))
theorem z_inD : Z2 K (rInD K) (fInD false) := by
  intro F H t u v w Q Qd hf r1 r2 ⟨d, e, h1, h2, h⟩ q
  exact ⟨d, e, now_dp (dat_ok h1).1 r1, now_dp (dat_ok h2).1 r2, (dat_ok h1).2, (dat_ok h2).2, pok_here hf q h rep_bl⟩
theorem z_notInD : Z2 K (rNotInD K) (fInD true) := by
  intro F H t u v w Q Qd hf r1 r2 ⟨d, e, h1, h2, h⟩ q
  exact ⟨d, e, now_dp (dat_ok h1).1 r1, now_dp (dat_ok h2).1 r2, (dat_ok h1).2, (dat_ok h2).2, pok_here hf q h rep_bl⟩
/-- flat things in a sequence of flat things -/
def flT : T → Option V
  | .non => some .non
  | .bl b => some (.bl b)
  | .int i => some (.int i)
  | .str x => some (.str x)
  | _ => none
def flTs : List T → Option (List V)
  | [] => some []
  | t :: l => (flT t).bind fun v => (flTs l).map (v :: ·)
theorem fl_rep {F : Fz} {H : Hp} {t : T} {x v : V} (h : flT t = some x) (r : Rep K F H t v) : v = x ∧ flatV x = true := by
  cases t <;> first | (cases h; unfold Rep at r; exact ⟨r, rfl⟩) | exact nomatch h
theorem fl_now {F : Fz} {H : Hp} {t : T} {x v : V} (h : flT t = some x) (r : Now K F H t v) : v = x ∧ flatV x = true := by
  cases t <;> first | exact fl_rep h (show Rep K F H _ v from r) | exact nomatch h
theorem fls_rep {F : Fz} {H : Hp} : ∀ {l : List T} {xs vs : List V}, flTs l = some xs → RepL K F H l vs → vs = xs ∧ xs.all flatV = true
  | [], xs, vs, h, r => by cases h; unfold RepL at r; exact ⟨r, rfl⟩
  | t :: l, xs, vs, h, r => by
    obtain ⟨x, e1, h⟩ := bind_some (show (flT t).bind (fun v => (flTs l).map (v :: ·)) = some xs from h)
    obtain ⟨xr, e2, rfl⟩ := map_some h
    unfold RepL at r
    obtain ⟨y, yr, rfl, r1, r2⟩ := r
    obtain ⟨rfl, f1⟩ := fl_rep e1 r1
    obtain ⟨rfl, f2⟩ := fls_rep e2 r2
    exact ⟨rfl, by rw [List.all_cons, f1, f2]; rfl⟩
def fInF (neg : Bool) : F2' := fun t u Q => ∃ x l xs, flT t = some x ∧ seqT u = some l ∧ flTs l = some xs ∧ Q (.bl (if neg then !inV x xs else inV x xs))
theorem z_inF {neg : Bool} : Z2 K (rIn K neg) (fInF neg) := by
  intro F H t u v w Q Qd hf r1 r2 ⟨x, l, xs, h1, h2, h3, h⟩ q
  obtain ⟨a, ys, rfl, hq, rl⟩ := seq_now h2 r2
  obtain ⟨rfl, f1⟩ := fl_now h1 r1
  obtain ⟨rfl, f2⟩ := fls_rep h3 rl
  exact ⟨a, ys, rfl, hq, f1, f2, pok_here hf q h rep_bl⟩
/-- is None -/
def isNonT : T → Bool
  | .non => true
  | _ => false
def fIsN (neg : Bool) : F2' := fun t u Q => u = .non ∧ Q (.bl (if neg then !isNonT t else isNonT t))
theorem isN_now {F : Fz} {H : Hp} {t : T} {v : V} (r : Now K F H t v) : decide (v = .non) = isNonT t := by
  have key : ∀ a, V.ref a ≠ V.non := fun a h => nomatch h
  cases t with
  | non => rw [now_non r]; rfl
  | bl b => rw [now_bl r]; rfl
  | int b => rw [now_int r]; rfl
  | str b => rw [now_str r]; rfl
  | ty b => rw [now_ty r]; rfl
  | ob b => rw [now_ob r]; rfl
  | tup l => obtain ⟨a, xs, rfl, _⟩ := r; rfl
  | lst l => obtain ⟨a, xs, rfl, _⟩ := r; rfl
  | scr l => obtain ⟨a, xs, rfl, _⟩ := r; rfl
  | dk ks l => obtain ⟨a, xs, rfl, _⟩ := r; rfl
  | dt ks l => obtain ⟨a, xs, rfl, _⟩ := r; rfl
  | ins C ns l => obtain ⟨a, dx, xs, rfl, _⟩ := r; rfl
  | er a dd ns l => have r' : Rep K F H (.er a dd ns l) v := r; unfold Rep at r'; obtain ⟨rfl, _⟩ := r'; rfl
theorem z_isN : Z2 K (fun x y H Q => y = .non ∧ Q (.bl (decide (x = .non))) H) (fIsN false) := by
  intro F H t u v w Q Qd hf r1 r2 ⟨e, h⟩ q
  subst e
  exact ⟨now_non r2, by rw [isN_now r1]; exact pok_here hf q h rep_bl⟩
theorem z_notN : Z2 K (fun x y H Q => y = .non ∧ Q (.bl (!decide (x = .non))) H) (fIsN true) := by
  intro F H t u v w Q Qd hf r1 r2 ⟨e, h⟩ q
  subst e
  exact ⟨now_non r2, by rw [isN_now r1]; exact pok_here hf q h rep_bl⟩
/-! ### lists and tuples -/
def fCatL : F2' := fun t u Q => ∃ l m, t = .lst l ∧ u = .lst m ∧ l.length + m.length ≤ sizeLine ∧ Q (.lst (l ++ m))
theorem z_catL : Z2 K rCat fCatL := by
  intro F H t u v w Q Qd hf r1 r2 ⟨l, m, e1, e2, z, h⟩ q
  subst e1 e2
  obtain ⟨a, xs, rfl, h1, q1⟩ := r1
  obtain ⟨b, ys, rfl, h2, q2⟩ := r2
  exact ⟨a, b, xs, ys, rfl, rfl, h1, h2, by rw [q1.length, q2.length]; exact z, pok_lst hf q h (by simpa using z) (q1.append q2)⟩
theorem repl_flat {F : Fz} {H : Hp} {l : List T} {xs : List V} (q : RepL K F H l xs) : ∀ n : Nat, RepL K F H (List.replicate n l).flatten (List.replicate n xs).flatten
  | 0 => .nil
  | n + 1 => by rw [List.replicate_succ, List.replicate_succ, List.flatten_cons, List.flatten_cons]; exact q.append (repl_flat q n)
theorem flat_len {α : Type} {l : List α} {n : Nat} : (List.replicate n l).flatten.length = l.length * n := by
  induction n with
  | zero => simp
  | succ n ih => rw [List.replicate_succ, List.flatten_cons, List.length_append, ih, Nat.mul_succ, Nat.add_comm]
def fRepL : F2' := fun t u Q => ∃ l k, t = .lst l ∧ u = .int k ∧ -(2 ^ 63) ≤ k ∧ k < 2 ^ 63 ∧ l.length * k.toNat ≤ sizeLine ∧ Q (.lst (List.replicate k.toNat l).flatten)
theorem z_repL : Z2 K rRep fRepL := by
  intro F H t u v w Q Qd hf r1 r2 ⟨l, k, e1, e2, z1, z2, z, h⟩ q
  subst e1 e2
  obtain ⟨a, xs, rfl, h1, q1⟩ := r1
  exact ⟨a, k, xs, rfl, now_int r2, h1, z1, z2, by rw [q1.length]; exact z, pok_lst hf q h (by rw [flat_len]; exact z) (repl_flat q1 _)⟩
theorem repl_at {F : Fz} {H : Hp} {l : List T} {xs : List V} (q : RepL K F H l xs) {i : Int} {t : T} (h : atI l i = some t) : ∃ x, atI xs i = some x ∧ Rep K F H t x := by
  unfold atI at h ⊢
  rw [q.length]
  obtain ⟨j, e1, e2⟩ := bind_some h
  obtain ⟨x, e3, r⟩ := q.get e2
  exact ⟨x, by rw [e1]; exact e3, r⟩
def fIx : F2' := fun t u Q => ∃ l i x, seqT t = some l ∧ u = .int i ∧ atI l i = some x ∧ Q x
theorem z_ix : Z2 K (fun x y H Q => rIxL K x y H Q ∨ rIxT K x y H Q) fIx := by
  intro F H t u v w Q Qd hf r1 r2 ⟨l, i, x, e1, e2, h1, h⟩ q
  subst e2
  obtain ⟨a, xs, rfl, hq, rl⟩ := seq_now e1 r1
  obtain ⟨y, ey, ry⟩ := repl_at rl h1
  rcases hq with hq | hq
  · exact .inl ⟨a, xs, i, y, rfl, now_int r2, hq, ey, pok_here hf q h ry⟩
  · exact .inr ⟨a, xs, i, y, rfl, now_int r2, hq, ey, pok_here hf q h ry⟩
def cutT (l : List T) (lo hi : Option Int) : List T := (l.drop (HT.sIx l.length 0 lo)).take (HT.sIx l.length l.length hi - HT.sIx l.length 0 lo)
theorem cut_rep {F : Fz} {H : Hp} {l : List T} {xs : List V} (q : RepL K F H l xs) (lo hi : Option Int) : RepL K F H (cutT l lo hi) (cutV xs lo hi) := by
  unfold cutT cutV
  rw [q.length]
  exact (q.drop _).take _
theorem cut_len (l : List T) (lo hi : Option Int) : (cutT l lo hi).length ≤ l.length := by
  unfold cutT
  rw [List.length_take, List.length_drop]; omega
def fSl : FS := fun t lo hi Q => ∃ l, lstT t = some l ∧ l.length ≤ sizeLine ∧ Q (.lst (cutT l lo hi))
theorem z_sl : ZS3 K (rSlL K) fSl := by
  intro F H t v lo hi Q Qd hf r ⟨l, e, z, h⟩ q
  obtain ⟨a, xs, rfl, hq, rl⟩ := lst_now e r
  exact ⟨a, xs, rfl, hq, pok_lst hf q h (Nat.le_trans (cut_len l lo hi) z) (cut_rep rl lo hi)⟩
end
end Zy
set_option Elab.async false
set_option linter.all false
set_option maxRecDepth 100000
set_option maxHeartbeats 400000
/-! ZB: calls of built-ins on trees. -/
namespace Zy
open PySem PySem.Spec PyProof.Rows L2
section
variable {K : PySem.W.Frag}
/-! ### isinstance -/
def tyT : T → Option String
  | .non => some "NoneType"
  | .bl _ => some "bool"
  | .int _ => some "int"
  | .str _ => some "str"
  | .lst _ => some "list"
  | .scr _ => some "list"
  | .tup _ => some "tuple"
  | .dk _ _ => some "dict"
  | _ => none
def clsT : T → Option (List String)
  | .ty n => some [n]
  | .tup l => clsTs l
  | _ => none
where clsTs : List T → Option (List String)
  | [] => some []
  | .ty n :: l => (clsTs l).map (n :: ·)
  | _ :: _ => none
def isiB (t : String) : List String → Option Bool
  | [] => some false
  | n :: r => match kitB t n with
    | some true => some true
    | some false => isiB t r
    | none => none
theorem tyX_now {F : Fz} {H : Hp} {t : T} {n : String} {v : V} (h : tyT t = some n) (r : Now K F H t v) : TyX K H v (.type n) := by
  cases t with
  | non => cases h; rw [now_non r]; exact .base .non
  | bl b => cases h; rw [now_bl r]; exact .base (.bl b)
  | int i => cases h; rw [now_int r]; exact .base (.int i)
  | str i => cases h; rw [now_str r]; exact .base (.str i)
  | lst l => cases h; obtain ⟨a, xs, rfl, e, _⟩ := r; exact .base (.lst e)
  | scr l =>
    cases h
    obtain ⟨a, xs, rfl, e, _⟩ := r
    rcases e with (e | ⟨o, e⟩) | ⟨o, its, k, e, ec, _⟩
    · exact .base (.lst e)
    · exact .base (.frz e)
    · exact .kList e ec
  | tup l =>
    cases h
    obtain ⟨a, xs, rfl, e, _⟩ := r
    rcases e with e | ⟨o, its, k, e, ec, _⟩
    · exact .base (.tup e)
    · exact .kTuple e ec
  | dk ks l =>
    cases h
    obtain ⟨a, xs, rfl, e, _⟩ := r
    exact .base (.dK e)
  | _ => cases h
theorem cls_rep {F : Fz} {H : Hp} : ∀ {l : List T} {ns : List String} {xs : List V}, clsT.clsTs l = some ns → RepL K F H l xs → Paired ClsV xs (ns.map .type)
  | [], ns, xs, h, r => by cases h; unfold RepL at r; subst r; exact .nil
  | .ty n :: l, ns, xs, h, r => by
    obtain ⟨nr, e, rfl⟩ := map_some (show (clsT.clsTs l).map (n :: ·) = some ns from h)
    unfold RepL at r
    obtain ⟨x, xr, rfl, r1, r2⟩ := r
    rw [rep_tyE r1]
    exact .cons (.ty n) (cls_rep e r2)
theorem isi_kit {t : String} : ∀ {ns : List String} {b : Bool}, isiB t ns = some b → PySem.W.kitAny K (.type t) (ns.map .type) = some b
  | [], b, h => by cases h; exact kitAny_nil
  | n :: r, b, h => by
    unfold isiB at h
    cases e : kitB t n with
    | none => rw [e] at h; cases h
    | some c =>
      rw [e] at h
      cases c with
      | true =>
        cases h
        exact kitAny_cons (r := true) (kit_ty e) (fun z => nomatch z) fun _ => rfl
      | false => exact kitAny_cons (kit_ty e) (fun _ => isi_kit h) fun z => nomatch z
abbrev rIsiA (K : PySem.W.Frag) : List V → Hp → VK → Prop := fun xs H Q => rIsi K xs H Q ∨ (rIsiT K xs H Q ∨ rIsiK K xs H Q)
theorem call_isiA {X : Cx} : CallR X (.builtin "isinstance") (rIsiA X.K) := .or call_isi (.or call_isiT call_isiK)
def fIsi : FN := fun ts Q => ∃ x c t ns b, ts = [x, c] ∧ tyT x = some t ∧ clsT c = some ns ∧ isiB t ns = some b ∧ Q (.bl b)
theorem z_isi : ZN K (rIsiA K) fIsi := by
  intro F H ts vs Q Qd hf r ⟨x, c, t, ns, b, e, h1, h2, h3, h⟩ q
  subst e
  obtain ⟨v, w, rfl, r1, r2⟩ := nowL2 r
  have tx := tyX_now h1 r1
  cases c with
  | ty n =>
    cases h2
    have hk : PySem.W.kitOne K (.type t) (.type n) = some b := by
      have h3' : (match kitB t n with | some true => some true | some false => some false | none => (none : Option Bool)) = some b := h3
      cases e : kitB t n with
      | none => rw [e] at h3'; cases h3'
      | some k => rw [e] at h3'; cases k <;> cases h3' <;> exact kit_ty e
    exact .inl ⟨v, w, .type t, .type n, b, rfl, by rw [now_ty r2]; exact .ty n, tx, hk, pok_here hf q h rep_bl⟩
  | tup l =>
    have h2' : clsT.clsTs l = some ns := h2
    obtain ⟨a, xs, rfl, e, rl⟩ := r2
    have pr := cls_rep h2' rl
    rcases e with e | ⟨o, its, n, e, ec, ed, _, vv⟩
    · exact .inr (.inl ⟨v, a, xs, .type t, _, b, rfl, e, pr, tx, isi_kit h3, pok_here hf q h rep_bl⟩)
    · have us := ClsV.all pr vv
      obtain ⟨cls, dd, data, sl⟩ := o
      cases ec
      cases ed
      refine .inr (.inr ⟨v, a, dd, its.toList, n, sl, .type t, b, rfl, by simpa using e, tx, ?_, pok_here hf q h rep_bl⟩)
      rw [us]
      exact isi_kit h3
  | _ => cases h2
/-! ### len, all, any, sum, min, max, int -/
def lenT : T → Option Nat
  | .lst l => some l.length
  | .scr l => some l.length
  | .tup l => some l.length
  | .str y => if y.length ≤ sizeLine then some y.length else none
  | _ => none
def fLen : FN := fun ts Q => ∃ x n, ts = [x] ∧ lenT x = some n ∧ Q (.int n)
theorem len_now {F : Fz} {H : Hp} {t : T} {n : Nat} {v : V} (h : lenT t = some n) (r : Now K F H t v) : LenV K v H n := by
  cases t with
  | lst l => cases h; obtain ⟨a, xs, rfl, e, q⟩ := r; exact .inl ⟨xs, .of e, by rw [q.length]⟩
  | scr l => cases h; obtain ⟨a, xs, rfl, e, q⟩ := r; exact .inl ⟨xs, e, by rw [q.length]⟩
  | tup l => cases h; obtain ⟨a, xs, rfl, e, q⟩ := r; exact .inr ⟨xs, e.sq, by rw [q.length]⟩
  | str y =>
    have h' : (if y.length ≤ sizeLine then some y.length else none) = some n := h
    by_cases hy : y.length ≤ sizeLine
    · rw [if_pos hy] at h'; cases h'; rw [now_str r]; exact ⟨hy, rfl⟩
    · rw [if_neg hy] at h'; cases h'
  | _ => cases h
theorem z_len : ZN K (fun xs H Q => ∃ x n, xs = [x] ∧ LenV K x H n ∧ Q (.int n) H) fLen := by
  intro F H ts vs Q Qd hf r ⟨x, n, e, h1, h⟩ q
  subst e
  obtain ⟨v, rfl, r1⟩ := nowL1 r
  exact ⟨v, n, rfl, len_now h1 r1, pok_here hf q h rep_int⟩
theorem ints_rep {F : Fz} {H : Hp} : ∀ {ns : List Int} {xs : List V}, RepL K F H (ns.map .int) xs → xs = ns.map V.int
  | [], xs, r => by unfold RepL at r; exact r
  | n :: ns, xs, r => by
    rw [List.map_cons] at r
    unfold RepL at r
    obtain ⟨x, xr, rfl, r1, r2⟩ := r
    rw [rep_intE r1, ints_rep r2]; rfl
theorem bls_rep {F : Fz} {H : Hp} : ∀ {ns : List Bool} {xs : List V}, RepL K F H (ns.map .bl) xs → xs = ns.map V.bl
  | [], xs, r => by unfold RepL at r; exact r
  | n :: ns, xs, r => by
    rw [List.map_cons] at r
    unfold RepL at r
    obtain ⟨x, xr, rfl, r1, r2⟩ := r
    rw [rep_blE r1, bls_rep r2]; rfl
def fAll : FN := fun ts Q => ∃ (x : T) (bs : List Bool), ts = [x] ∧ lstT x = some (bs.map .bl) ∧ Q (.bl (bs.all id))
def fAny : FN := fun ts Q => ∃ (x : T) (bs : List Bool), ts = [x] ∧ lstT x = some (bs.map .bl) ∧ Q (.bl (bs.any id))
def fSum : FN := fun ts Q => ∃ (x : T) (ns : List Int), ts = [x] ∧ lstT x = some (ns.map .int) ∧ Q (.int ns.sum)
theorem z_all : ZN K (rAll K) fAll := by
  intro F H ts vs Q Qd hf r ⟨x, n, e, h1, h⟩ q
  subst e
  obtain ⟨v, rfl, r1⟩ := nowL1 r
  obtain ⟨a, xs, rfl, e, rl⟩ := lst_now h1 r1
  exact ⟨a, n, rfl, by rw [← bls_rep rl]; exact e, pok_here hf q h rep_bl⟩
theorem z_any : ZN K (rAny K) fAny := by
  intro F H ts vs Q Qd hf r ⟨x, n, e, h1, h⟩ q
  subst e
  obtain ⟨v, rfl, r1⟩ := nowL1 r
  obtain ⟨a, xs, rfl, e, rl⟩ := lst_now h1 r1
  exact ⟨a, n, rfl, by rw [← bls_rep rl]; exact e, pok_here hf q h rep_bl⟩
theorem z_sum : ZN K (rSum K) fSum := by
  intro F H ts vs Q Qd hf r ⟨x, n, e, h1, h⟩ q
  subst e
  obtain ⟨v, rfl, r1⟩ := nowL1 r
  obtain ⟨a, xs, rfl, e, rl⟩ := lst_now h1 r1
  exact ⟨a, n, rfl, by rw [← ints_rep rl]; exact e, pok_here hf q h rep_int⟩
def fMin2 : FN := fun ts Q => ∃ i j, ts = [.int i, .int j] ∧ Q (.int (if j < i then j else i))
def fMax2 : FN := fun ts Q => ∃ i j, ts = [.int i, .int j] ∧ Q (.int (if j > i then j else i))
theorem z_min2 : ZN K (fun xs H Q => ∃ i j, xs = [.int i, .int j] ∧ Q (.int (if j < i then j else i)) H) fMin2 := by
  intro F H ts vs Q Qd hf r ⟨i, j, e, h⟩ q
  subst e
  obtain ⟨v, w, rfl, r1, r2⟩ := nowL2 r
  exact ⟨i, j, by rw [now_int r1, now_int r2], pok_here hf q h rep_int⟩
theorem z_max2 : ZN K (fun xs H Q => ∃ i j, xs = [.int i, .int j] ∧ Q (.int (if j > i then j else i)) H) fMax2 := by
  intro F H ts vs Q Qd hf r ⟨i, j, e, h⟩ q
  subst e
  obtain ⟨v, w, rfl, r1, r2⟩ := nowL2 r
  exact ⟨i, j, by rw [now_int r1, now_int r2], pok_here hf q h rep_int⟩
def fInt : FN := fun ts Q => (∃ i, ts = [.int i] ∧ Q (.int i)) ∨ ∃ k, ts = [.bl k] ∧ Q (.int (if k then 1 else 0))
theorem z_intc : ZN K (fun xs H Q => (∃ i, xs = [.int i] ∧ Q (.int i) H) ∨ ∃ k, xs = [.bl k] ∧ Q (.int (if k then 1 else 0)) H) fInt := by
  intro F H ts vs Q Qd hf r h q
  rcases h with ⟨i, e, h⟩ | ⟨i, e, h⟩
  · subst e
    obtain ⟨v, rfl, r1⟩ := nowL1 r
    exact .inl ⟨i, by rw [now_int r1], pok_here hf q h rep_int⟩
  · subst e
    obtain ⟨v, rfl, r1⟩ := nowL1 r
    exact .inr ⟨i, by rw [now_bl r1], pok_here hf q h rep_int⟩
/-! ### list, tuple -/
def fList : FN := fun ts Q => ∃ x l, ts = [x] ∧ seqT x = some l ∧ l.length ≤ sizeLine ∧ Q (.lst l)
theorem z_list : ZN K (fun xs H Q => ∃ p ys, xs = [.ref p] ∧ (SqL K H p ys ∨ SqT K H p ys) ∧ ∀ l, H l = none → Q (.ref l) (upd H l (.lst ys))) fList := by
  intro F H ts vs Q Qd hf r ⟨x, l, e, h1, z, h⟩ q
  subst e
  obtain ⟨v, rfl, r1⟩ := nowL1 r
  obtain ⟨a, xs, rfl, e, rl⟩ := seq_now h1 r1
  exact ⟨a, xs, rfl, e, pok_lst hf q h z rl⟩
def fTuple : FN := fun ts Q => ∃ x l, ts = [x] ∧ seqT x = some l ∧ l.length ≤ sizeLine ∧ Q (.tup l)
theorem z_tuple : ZN K (fun xs H Q => ∃ p ys, xs = [.ref p] ∧ ((SqL K H p ys ∧ ∀ l, H l = none → Q (.ref l) (upd H l (.tup ys))) ∨ (SqT K H p ys ∧ Q (.ref p) H))) fTuple := by
  intro F H ts vs Q Qd hf r ⟨x, l, e, h1, z, h⟩ q
  subst e
  obtain ⟨v, rfl, r1⟩ := nowL1 r
  cases x with
  | lst l' => cases h1; obtain ⟨a, xs, rfl, e, rl⟩ := r1; exact ⟨a, xs, rfl, .inl ⟨.of e, pok_tup hf q h z rl⟩⟩
  | scr l' => cases h1; obtain ⟨a, xs, rfl, e, rl⟩ := r1; exact ⟨a, xs, rfl, .inl ⟨e, pok_tup hf q h z rl⟩⟩
  | tup l' => cases h1; obtain ⟨a, xs, rfl, e, rl⟩ := r1; exact ⟨a, xs, rfl, .inr ⟨e.sq, pok_here hf q h (by unfold Rep; exact ⟨z, a, xs, rfl, e, rl⟩)⟩⟩
  | _ => cases h1
end
end Zy
set_option Elab.async false
set_option linter.all false
set_option maxRecDepth 100000
set_option maxHeartbeats 400000
/-! ZC: things of the store: items read and stored, append, extend. -/
namespace Zy
open PySem PySem.Spec PyProof.Rows L2
section
variable {K : PySem.W.Frag} {F : Fz} {β : List Addr} {H : Hp} {μ : Mu}
/-- the items of a list or a tuple -/
def itS (μ : Mu) : D → Option (List D)
  | .t x => (seqT x).map fun l => l.map .t
  | .r i => match μ[i]? with
    | some (.lst ds) => some ds
    | some (.tup ds) => some ds
    | _ => none
theorem itS_rep (s : Sto K F β H μ) {d : D} {v : V} {ds : List D} (r : RepD K F β H d v) (h : itS μ d = some ds) : ∃ a xs, v = .ref a ∧ (SqL K H a xs ∨ SqT K H a xs) ∧ RepDs K F β H ds xs := by
  cases d with
  | t x =>
    obtain ⟨l, e, rfl⟩ := map_some (show (seqT x).map (fun l => l.map D.t) = some ds from h)
    obtain ⟨a, xs, e1, q, rl⟩ := seq_now e (Rep.now r)
    exact ⟨a, xs, e1, q, .ofL rl⟩
  | r i =>
    obtain ⟨a, ha, rfl⟩ := r
    have h' : (match μ[i]? with | some (MO.lst ds) => some ds | some (MO.tup ds) => some ds | _ => none) = some ds := h
    cases em : μ[i]? with
    | none => rw [em] at h'; cases h'
    | some m =>
      rw [em] at h'
      cases m with
      | lst l => cases h'; obtain ⟨_, xs, e, q⟩ := s.ok i a _ ha em; exact ⟨a, xs, rfl, .inl (.of e), q⟩
      | tup l => cases h'; obtain ⟨xs, e, q⟩ := s.ok i a _ ha em; exact ⟨a, xs, rfl, .inr (.of e), q⟩
      | _ => cases h'
theorem repds_at {ds : List D} {xs : List V} (q : RepDs K F β H ds xs) {i : Int} {d : D} (h : atI ds i = some d) : ∃ x, atI xs i = some x ∧ RepD K F β H d x := by
  unfold atI at h ⊢
  rw [q.length]
  obtain ⟨j, e1, e2⟩ := bind_some h
  obtain ⟨x, e3, r⟩ := q.get e2
  exact ⟨x, by rw [e1]; exact e3, r⟩
theorem RepDs.set {ds : List D} {xs : List V} (q : RepDs K F β H ds xs) (j : Nat) {d : D} {x : V} (r : RepD K F β H d x) : RepDs K F β H (ds.set j d) (xs.set j x) := by
  induction ds generalizing xs j with
  | nil => cases (show xs = [] from q); exact rfl
  | cons d0 ds ih =>
    obtain ⟨y, yr, rfl, r1, r2⟩ := q
    cases j with
    | zero => exact ⟨x, yr, rfl, r, r2⟩
    | succ j => exact ⟨y, _, rfl, r1, ih r2 j⟩
/-- a list of the store gets other items -/
theorem put_lst (s : Sto K F β H μ) {i : Nat} {a : Addr} (ha : β[i]? = some a) {ds ds' : List D} (em : μ[i]? = some (.lst ds)) {ys : List V} (q : RepDs K F β H ds' ys) :
    Stp F β H F β (upd H a (.lst ys)) ∧ Sto K F β (upd H a (.lst ys)) (μ.set i (.lst ds')) := by
  obtain ⟨nf, xs, e, _⟩ := s.ok i a _ ha em
  have nt : ∀ zs, H a ≠ some (.tup zs) := fun zs h => by rw [e] at h; cases h
  have st := s.write_stp (o := .lst ys) ha nf nt
  exact ⟨st, s.write ha nf nt ⟨nf, ys, upd_same, q.stp st⟩⟩
end
section
variable {X : Cx} {W : WX} {a b o e : Expr} {pos p2 : Pos} {wa wb wo : WEx}
/-- an item, whatever the thing -/
def wIx (wa wb : WEx) : WEx := fun ρ μ Q E => wa ρ μ (fun d μ1 => wb ρ μ1 (fun d' μ2 => ∃ k l x, d' = .t (.int k) ∧ itS μ2 d = some l ∧ atI l k = some x ∧ Q x μ2) E) E
theorem ze_item (ha : ZE X W a wa) (hb : ZE X W b wb) (hs : PlainIx b := by exact fun _ _ => rfl) : ZE X W (.Subscript a b pos) (wIx wa wb) :=
  ⟨PE.imp (pe_ix (.or ix_list ix_tup) ha.pe hb.pe hs) fun σ H Q ⟨F, β, ρ, μ, Qd, Ed, s, l, q, o, w⟩ => ⟨F, β, ρ, μ, _, Ed, s, l, fun d μ1 w1 v H1 F1 β1 st s1 r1 =>
    ⟨F1, β1, ρ, μ1, _, Ed, s1, l.stp st, fun d' μ2 ⟨k, l, x, h1, h2, h3, h4⟩ v' H2 F2 β2 st2 s2 r2 => by
      subst h1
      obtain ⟨a, xs, rfl, hq, rl⟩ := itS_rep s2 (r1.stp st2) h2
      obtain ⟨y, ey, ry⟩ := repds_at rl h3
      have := rep_intE (show Rep X.K F2 H2 (.int k) v' from r2)
      have fin := q x μ2 h4 y H2 F2 β2 (st.trans st2) s2 ry
      rcases hq with hq | hq
      · exact .inl ⟨a, xs, k, y, rfl, this, hq, ey, fin⟩
      · exact .inr ⟨a, xs, k, y, rfl, this, hq, ey, fin⟩, o.stp st, w1⟩, o, w⟩⟩
/-- x[i] = v for a list of the store -/
def wgSub (wo wi : WEx) : WTg := fun d ρ μ Q => wo ρ μ (fun dl μ1 => wi ρ μ1 (fun di μ2 => ∃ i l k j, dl = .r i ∧ di = .t (.int k) ∧ μ2[i]? = some (.lst l) ∧ ixN l.length k = some j ∧ Q ρ (μ2.set i (.lst (l.set j d)))) wEk) wEk
theorem zg_sub (ho : ZE X W0 o wo) (hi : ZE X W0 e wb) (hs : ∀ v : Value, assign (.Subscript o e pos) X.env v = (do
      let ov ← holding [v] (eval o X.env)
      let iv ← holding [v, ov] (eval e X.env)
      standAt pos
      holding [v, ov, iv] (setItem ov iv v)
      release [v, ov, iv] []) := by intro _; rfl) : ZG X (.Subscript o e pos) (wgSub wo wb) :=
  ⟨PG.imp (pg_sub ho.pe hi.pe set_list hs) fun v σ H Q ⟨F, β, ρ, μ, d, Qd, s, l, r, q, w⟩ => ⟨F, β, ρ, μ, _, wEk, s, l, fun dl μ1 w1 v1 H1 F1 β1 st s1 r1 =>
    ⟨F1, β1, ρ, μ1, _, wEk, s1, l.stp st, fun di μ2 ⟨i, ls, k, j, h1, h2, h3, h4, h5⟩ v2 H2 F2 β2 st2 s2 r2 => by
      subst h1 h2
      obtain ⟨a, ha, rfl⟩ := r1.stp st2
      obtain ⟨_, xs, ex, rl⟩ := s2.ok i a _ ha h3
      obtain ⟨st3, s3⟩ := put_lst s2 ha h3 (rl.set j (r.stp (st.trans st2)))
      have stt := st.trans (st2.trans st3)
      exact ⟨a, xs, k, j, rfl, rep_intE (show Rep X.K F2 H2 (.int k) v2 from r2), ex, by rw [rl.length]; exact h4, q _ _ h5 σ _ F2 β2 stt s3 (l.stp stt)⟩, fun _ _ z => z.elim, w1⟩, fun _ _ z => z.elim, w⟩⟩
/-- o.append(e) -/
def wApp (wo wa : WEx) : WEx := fun ρ μ Q E => wo ρ μ (fun d μ1 => ∃ i l0, d = .r i ∧ μ1[i]? = some (.lst l0) ∧ wa ρ μ1 (fun y μ2 => ∃ l, μ2[i]? = some (.lst l) ∧ l.length < sizeLine ∧ Q (.t .non) (μ2.set i (.lst (l ++ [y])))) E) E
theorem ze_append {apos cpos : Pos} (ho : ZE X W o wo) (ha : ZE X W e wa) (hs : starEach [e] X.env = (false, eval e X.env) :: starEach [] X.env := by rfl)
    (h1 : attributeBase o ("append" : Str) X.env (eval o X.env) = eval o X.env := by rfl)
    (h2 : ((((backTo cpos (starEach [e] X.env)).all fun x => !x.1) && (backToKw cpos (keywordEach [] X.env)).all fun x => x.1.isSome) && decide (([e].length + ([] : List Keyword).length + if ([] : List Keyword).isEmpty = true then 0 else 1) < 30)) = true := by rfl)
    (h3 : (apos.endLine == cpos.line) = true := by rfl) (h4 : ((backTo cpos (starEach [] X.env)).any fun x => x.1) = false := by rfl) : ZE X W (.Call (.Attribute o "append" apos) [e] [] cpos) (wApp wo wa) :=
  ⟨PE.imp (pe_bm PySem.F.plainAttrs_list PySem.F.slot_list_append PySem.F.type_list_append mt_append ho.pe (za_cons ha za_nil hs).pa h1 h2 h3 hs h4) fun σ H Q ⟨F, β, ρ, μ, Qd, Ed, s, l, q, o, w⟩ => ⟨F, β, ρ, μ, _, Ed, s, l, fun d μ1 ⟨i, l0, h1, h2, w1⟩ v H1 F1 β1 st s1 r1 => by
    subst h1
    obtain ⟨a, ha, rfl⟩ := r1
    obtain ⟨_, xs0, e0, _⟩ := s1.ok i a _ ha h2
    refine ⟨.inl ⟨rfl, xs0, .of e0⟩, F1, β1, ρ, μ1, fun ds μ2 => match ds with | [y] => ∃ l, μ2[i]? = some (.lst l) ∧ l.length < sizeLine ∧ Qd (.t .non) (μ2.set i (.lst (l ++ [y]))) | _ => False, Ed, s1, l.stp st, fun ds μ2 h vs H2 F2 β2 st2 s2 r2 => ?_, o.stp st, w1⟩
    obtain ⟨y, yl, h3, h4, h5⟩ : ∃ y l, ds = [y] ∧ μ2[i]? = some (.lst l) ∧ l.length < sizeLine ∧ Qd (.t .non) (μ2.set i (.lst (l ++ [y]))) := by
      match ds, h with
      | [y], ⟨l, h⟩ => exact ⟨y, l, rfl, h⟩
    subst h3
    obtain ⟨x, xr, rfl, ry, r3⟩ := r2
    cases (show xr = [] from r3)
    have ha2 : β2[i]? = some a := by
      obtain ⟨l, rfl⟩ := st2.b
      rw [List.getElem?_append_left (List.getElem?_eq_some_iff.mp ha).1]; exact ha
    obtain ⟨_, xs, ex, rl⟩ := s2.ok i a _ ha2 h4
    obtain ⟨st3, s3⟩ := put_lst s2 ha2 h4 (rl.append (l' := [y]) (ys := [x]) ⟨x, [], rfl, ry, rfl⟩)
    exact ⟨a, xs, x, rfl, rfl, ex, by rw [rl.length]; exact h5.1, q _ _ h5.2 .non (upd H2 a (.lst (xs ++ [x]))) F2 β2 (st.trans (st2.trans st3)) s3 (@rep_non X.K F2 (upd H2 a (.lst (xs ++ [x]))))⟩, o, w⟩⟩
end
end Zy
set_option Elab.async false
set_option linter.all false
set_option maxRecDepth 100000
set_option maxHeartbeats 1000000
/-! Tas: try .. except A as e: .. except B as e: .. -/
namespace Zy
open PySem PySem.Spec PyProof.Rows L2
abbrev Suite := Addr → Value → Option Addr → TS
inductive HdsAs (X : Cx) : List ExceptHandler → List (Value × Nat × Suite) → Prop where
  | nil : HdsAs X [] []
  | cons {x n : Str} {c : Value} {i : Nat} {ts : Suite} {b₀ : Stmt} {suite : List Stmt} {np pos' : Pos} {hds : List ExceptHandler} {l : List (Value × Nat × Suite)} (hi : X.N[i]? = some n) (hln : X.env.kindOf n = some .local) (hc : Names X x c)
      (hsu : ∀ (a : Addr) (oe : Obj) (cls : Value) (d : Option Addr) (pn : List (Addr × Obj)), Zc cls d oe → (∃ vs, oe.data = .fields vs) → PSs (X.suite a ((a, oe) :: pn)) (b₀ :: suite) (ts a cls d)) (r : HdsAs X hds l) :
      HdsAs X (.ExceptHandler (some (.Name x np)) (some n) (b₀ :: suite) pos' :: hds) ((c, i, ts) :: l)
def endsAs (D : Ends) (i : Nat) : Ends := { nx := fun σ' H' => D.nx (σ'.set i none) H', rt := D.rt, bk := fun σ' H' => D.bk (σ'.set i none) H', ct := fun σ' H' => D.ct (σ'.set i none) H' }
def wAsM (K : PySem.W.Frag) (Wout : WX) (D : Ends) : List (Value × Nat × Suite) → WX
  | [] => Wout
  | (c, i, ts) :: r => fun cls d σ H => ∃ b, PySem.W.exmOne K cls c = some b ∧ (b = true → ∀ a, H a = none → ts a cls d (endsAs D i) (σ.set i (some (.ref a))) H) ∧ (b = false → wAsM K Wout D r cls d σ H)
theorem ps_try_asM {X : Cx} {body : List Stmt} {h₀ : ExceptHandler} {hds : List ExceptHandler} {l : List (Value × Nat × Suite)} {pos : Pos} {tb : WX → TS} {Wout : WX} (hs : X.stack = X.env :: X.outer) (hf : X.env.frame = some X.env.locals) (hN : X.N.Nodup) (tk : Takes X Wout)
    (hb : ∀ (W : WX) (pn : List (Addr × Obj)) (xe : Value → Shared → Prop), Takes (X.tr pn xe) W → PassesOwn (model X.prog X.w) X.A X.env xe → PSs (X.tr pn xe) body (tb W)) (hh : HdsAs X (h₀ :: hds) l) :
    PS X (.Try body (h₀ :: hds) [] [] pos) fun D σ H => tb (wAsM X.K Wout D l) D σ H := by
  refine ⟨fun pins s σ H D I h => ?_⟩
  have ok := I.ok
  have hfr : X.A.frames = some (X.env :: X.outer) := by rw [ok.frames, hs]
  refine wpAny_Try_except (wpAny_mono ((hb (wAsM X.K Wout D l) (X.pn ++ pins) (fun e s₁ => wpAny (model X.prog X.w) X.A (noteFrame e X.env) (fun _ s₂ => wpAny (model X.prog X.w) X.A (setFlight e none) (fun _ s₃ => wpAny (model X.prog X.w) X.A (handleBy e X.env (h₀ :: hds)) (SP X pins D) X.xe s₃) X.xe s₂) X.xe s₁) (fun u s' xx => ?_) PassesOwn.looking).run [] s σ H D (Inv.toTry I _) h) (fun f s1 hsp => ?_) fun e s1 he => he)
  · obtain ⟨a, B, sI, pins', σ', H', cls, d, rfl, J', nb, up, sky, na, os, ag, w⟩ := xx
    have J := Inv.ofTry J' ok
    have sky' : Sky B (X.env :: X.outer) a (Zc cls d) X.env.locals s'.heap := by rw [← hs]; exact sky
    refine Sky.land Zc.steady hfr hf sky' fun h3 fl3 up3 => ?_
    have J3 := Inv.landed (s' := { heap := h3, gens := s'.gens, drawn := s'.drawn, toks := s'.toks, os := s'.os }) J nb fl3.left (Heap.UpToSlots.trans up up3) os ag
    obtain ⟨oe3, vs3, he3, hz3, hd3⟩ := HandSPX.FlyingZ.there fl3
    have nfr : a ∉ frs (X.env :: X.outer) := fun hm => by
      obtain ⟨_, o', e', hnf⟩ := Heap.FunFrames.mem fl3.right.right.left hm
      rw [he3] at e'
      cases e'
      exact hnf vs3 hd3
    have nL : a ≠ X.env.locals := fun z => nfr (List.mem_filterMap.mpr ⟨X.env, List.mem_cons_self, by rw [hf, z]⟩)
    have nF : a ∉ frs X.outer := fun hm => by
      obtain ⟨e, he, q⟩ := List.mem_filterMap.mp hm
      exact nfr (List.mem_filterMap.mpr ⟨e, List.mem_cons_of_mem _ he, q⟩)
    have S3 := Inv.suite J3 he3 hd3 na nL nF
    have go : ∀ (hds' : List ExceptHandler) (l' : List (Value × Nat × Suite)), HdsAs X hds' l' → wAsM X.K Wout D l' cls d σ' H' → wpAny (model X.prog X.w) X.A (handleBy (.ref a) X.env hds') (SP X pins D) X.xe { heap := h3, gens := s'.gens, drawn := s'.drawn, toks := s'.toks, os := s'.os } := by
      intro hds' l' hk
      induction hk with
      | nil =>
        intro w
        refine wpAny_handleBy_nil ?_
        obtain ⟨k1, k2, k3, oe, vs, T, oT, ts', he, hz, hd, h1, hr⟩ := id fl3
        refine wpAny_bind (wpAny_field he hd h1 ?_)
        rw [if_neg (by simp)]
        have fin : wpAny (model X.prog X.w) X.A (setFlight (.ref a) X.env.frame) (fun _ s4 => wpAny (model X.prog X.w) X.A (throw (Value.ref a)) (SP X pins D) X.xe s4) X.xe { heap := h3, gens := s'.gens, drawn := s'.drawn, toks := s'.toks, os := s'.os } := by
          rw [hf]
          exact HandSPX.setFlight_upZ fl3 fun h4 hh4 up4 => wpAny_throw (tk _ _ ⟨a, B, sI, pins, σ', H', cls, d, rfl, J, nb, Heap.UpToSlots.trans (Heap.UpToSlots.trans up up3) up4, Or.inr (Or.inr (by rw [hs]; exact hh4)), na, os, ag, w⟩)
        exact wpAny_bind fin
      | @cons x n c i ts b₀ suite np pos' hds l hi hln hc hsu r ih =>
        rintro ⟨b, hb1, hyes, hno⟩
        refine wpAny_handleBy_cons (codeAny_handlers_test ?_) (fun q => nomatch q)
        have LT : PySem.W.Looks (model X.prog X.w) h3 (typeOf (.ref a)) cls := fun A Q E s k q => wpAny_typeOf_ref (k a oe3 he3) (by rw [hz3.1]; exact q)
        have LM := PySem.W.exm_one (Inv.kIn J3) LT hb1
        have test : ∀ {Q : Value → Shared → Prop} {E : Value → Shared → Prop}, Q c { heap := h3, gens := s'.gens, drawn := s'.drawn, toks := s'.toks, os := s'.os } → wpAny (model X.prog X.w) (X.A.mark (some (.ref a))) (eval (.Name x np) X.env) Q E { heap := h3, gens := s'.gens, drawn := s'.drawn, toks := s'.toks, os := s'.os } := fun {Q E} q => by
          obtain ⟨hg, hdbg, hm | ⟨hm, hv, hnn⟩⟩ := hc
          · exact ld_glob S3 hg hm q hdbg
          · exact ld_blt S3 hg hm hv q hnn hdbg
        refine test (PySem.W.Looks.here LM ?_)
        cases b with
        | false => exact ih (hno rfl)
        | true =>
          refine codeAny_handlers_suite_as (HandSPX.lands_againZ fl3 fun h4 fl4 up4 => ?_)
          have J4 := Inv.landed (s' := { heap := h4, gens := s'.gens, drawn := s'.drawn, toks := s'.toks, os := s'.os }) J nb fl4.left (Heap.UpToSlots.trans (Heap.UpToSlots.trans up up3) up4) os ag
          obtain ⟨oe4, vs4, he4, hz4, hd4⟩ := HandSPX.FlyingZ.there fl4
          have S4 := Inv.suite J4 he4 hd4 na nL nF
          refine store_ok (X := X.suite a ((a, oe4) :: (X.pn ++ pins))) S4 hN hi (Or.inl hln) (u := .ref a) (v := .ref a) rfl (fun s5 S5 => wpAny_mono ((hsu a oe4 cls d (X.pn ++ pins) hz4 ⟨vs4, hd4⟩).run [] s5 (σ'.set i (some (.ref a))) H' (endsAs D i) S5 (hyes rfl a na)) (fun f s6 hsp => ?_) fun _ _ z => z.elim) (Or.inr hln)
          cases f with
          | next =>
            obtain ⟨σ6, H6, S6, q6⟩ := hsp
            exact gone_ok (Inv.unsuite S6 ok) hN hi hln fun s7 J7 => ⟨σ6.set i none, H6, J7, q6⟩
          | brk =>
            obtain ⟨σ6, H6, S6, q6⟩ := hsp
            exact gone_ok (Inv.unsuite S6 ok) hN hi hln fun s7 J7 => ⟨σ6.set i none, H6, J7, q6⟩
          | cont =>
            obtain ⟨σ6, H6, S6, q6⟩ := hsp
            exact gone_ok (Inv.unsuite S6 ok) hN hi hln fun s7 J7 => ⟨σ6.set i none, H6, J7, q6⟩
          | ret u =>
            obtain ⟨v6, σ6, H6, S6, r6, q6⟩ := hsp
            exact gone_ok (Inv.unsuite S6 ok) hN hi hln fun s7 J7 => ⟨v6, σ6.set i none, H6, J7, r6, q6⟩
    exact go _ _ hh w
  · cases f with
    | next =>
      obtain ⟨σ', H', J', q⟩ := hsp
      exact wpAny_execs_nil ⟨σ', H', Inv.ofTry J' ok, q⟩
    | brk =>
      obtain ⟨σ', H', J', q⟩ := hsp
      exact ⟨σ', H', Inv.ofTry J' ok, q⟩
    | cont =>
      obtain ⟨σ', H', J', q⟩ := hsp
      exact ⟨σ', H', Inv.ofTry J' ok, q⟩
    | ret v =>
      obtain ⟨v', σ', H', J', r, q⟩ := hsp
      exact ⟨v', σ', H', Inv.ofTry J' ok, r, q⟩
end Zy
set_option Elab.async false
set_option linter.all false
set_option maxRecDepth 100000
set_option maxHeartbeats 1000000
namespace PySem.Sup
open PySem PySem.Spec PySem.W PySem.Calls PyProof.Rows PySem.HandSPX
theorem call_mw {prog : Program} {w : World} {A : Around} {E : Value → Shared → Prop} {h : Heap} {g : Array GenState} {d : Drawn} {t : Nat} {os : OsState} {nm q : Str} {C N : Addr} {bs bm : List Value} {hdct : Bool} {sn : List Str}
    {sub : List Value} {ab : Bool} {col : Option Bool} {dd : Option Addr} {k0 k1 k2 k3 k5 : Option Value} {u e t0 : Addr} {rest : List Value} {Q : Value → Shared → Prop}
    (hC : h.get? C = some (excClassObj nm q C N bs bm hdct sn sub ab col dd k0 k1 k2 k3 k5 "ValueError.__new__")) (he : h.get? e = some (excO C t0)) (hu : h.get? u = some (kxs_mw "ValueError.__init__" e)) (hrest : rest.length ≤ sizeLine)
    (hq : ∀ (h' : Heap) (t1 : Addr), (∀ (b : Addr) (o : Obj), b ≠ e → h.get? b = some o → h'.get? b = some o) → h'.get? e = some (excO C t1) → Q .none { heap := h', gens := g, drawn := d, toks := t, os := os }) :
    wpAny (model prog w) A (call (.ref u) rest) Q E { heap := h, gens := g, drawn := d, toks := t, os := os } := by
  refine wpAny_call (codeAny_of_tree ?_)
  show wpAny (model prog w) A.in1 (callAny (.ref u) { pos := rest }) _ _ _
  simp only [callAny]
  refine wpAny_bind (wpAny_load hu ?_)
  simp only []
  refine wpAny_bind (ESX.check_bound F.excBase_ValueError hC he rfl ?_)
  refine wpAny_pure ⟨Code.quiet_builtin _ (by decide +kernel), codeAny_builtin F.excBase_ValueError.initEntry ?_⟩
  rw [Around.under_plainId F.excBase_ValueError.init.plain]
  show wpAny (model prog w) A.in1 (Builtin.«BaseException.__init__» { pos := .ref e :: rest }) _ _ _
  unfold Builtin.«BaseException.__init__»
  simp only []
  refine wpAny_ite_false rfl ?_
  refine wpAny_bind ?_
  refine wpAny_newTuple ?_ hrest
  have he1 : (h.push { cls := .type "tuple", data := .seq rest.toArray }).get? e = some (excO C t0) := Heap.get?_push_of_some _ he
  refine wpAny_bind ?_
  unfold Builtin.BaseException.bexcPut
  refine wpAny_bind (wpAny_field (i := 0) (x := .ref t0) he1 rfl rfl ?_)
  refine wpAny_bind (wpAny_setField (i := 0) he1 rfl (by simp) ?_)
  refine wpAny_letGo ?_
  show wpAny _ _ (ret .none) _ _ _
  refine wpAny_pure (hq _ h.objs.size (fun b o hb e1 => ?_) ?_)
  · exact Heap.get?_update_of_ne _ (Ne.symm hb) (Heap.get?_push_of_some _ e1)
  · exact Heap.get?_update_self _ he1 rfl

/-! ### the text of an __init__ that says super().__init__(f); self.f = f -/
structure IPos where
  (a1 a2 p0 p1 p2 p3 p4 p5 p6 p7 p8 p9 : Pos)
def iA (f : Str) (z : IPos) : Arguments := { posonlyargs := [], args := [{ arg := "self", annotation := none, pos := z.a1 }, { arg := f, annotation := none, pos := z.a2 }], vararg := none, kwonlyargs := [], kw_defaults := [], kwarg := none, defaults := [] }
def iS (f : Str) : Scope := { kind := .function, names := [(("self" : Str), .local), (f, .local), (("__class__" : Str), .free), (("super" : Str), .globalImplicit)], isGenerator := false, isCoroutine := false, more := [] }
def iB (f : Str) (z : IPos) : List Stmt := [.Expr (.Call (.Attribute (.Call (.Name "super" z.p0) [] [] z.p1) "__init__" z.p2) [.Name f z.p3] [] z.p4) z.p5, .Assign [.Attribute (.Name "self" z.p6) f z.p7] (.Name f z.p8) z.p9]
abbrev IniEval (f : Str) (z : IPos) : Prop := ∀ env : Env, ∃ pl, eval (.Call (.Attribute (.Call (.Name "super" z.p0) [] [] z.p1) "__init__" z.p2) [.Name f z.p3] [] z.p4) env = (do
  let ov ← attributeBase (.Call (.Name "super" z.p0) [] [] z.p1) "__init__" env (eval (.Call (.Name "super" z.p0) [] [] z.p1) env)
  standAt z.p2.atName
  let (f1, first) ← holding [ov] (getMethod ov "__init__" pl)
  callWith z.p4 f1 first (backTo z.p4 (starEach [.Name f z.p3] env)) [])
structure IniTxt (K : Frag) (pf : Str) (C fI : Addr) (f : Str) (z : IPos) : Prop where
  ex : ∃ (oc : Value) (od : Option Addr) (doc pm : Value) (an : Option Addr) (ct : Value) (osl : Array (Option Value)) (qual : Str) (cc ca : Addr),
    K.lookup fI = some ⟨oc, od, .func (ksFn "__init__" qual (iA f z) (iB f z) (iS f) .none .none doc pm an (.ref ca) ct cc), osl⟩ ∧
    codeIn K (.ref ca) qual = true ∧
    (∃ co vs file tf, K.lookup ca = some co ∧ co.data = .fields vs ∧ vs[2]? = some (.str file tf) ∧ (pf == file) = true) ∧
    (∃ oc2, K.lookup cc = some oc2 ∧ oc2.data = .cell (some (.ref C)))
  n1 : (f == ("self" : Str)) = false
  n2 : (f == ("super" : Str)) = false
  n3 : (f == ("__class__" : Str)) = false
  n4 : (f == ("__debug__" : Str)) = false
abbrev IniBind (f : Str) (z : IPos) : Prop := ∀ (doc pm : Value) (an : Option Addr) (ct : Value) (qual : Str) (cc ca : Addr) (s : Shared) (x v : Value),
  BindsTo s (ksFn "__init__" qual (iA f z) (iB f z) (iS f) .none .none doc pm an (.ref ca) ct cc) ⟨[x, v], []⟩ [("self", x), (f, v)]
structure SupTxt (K : Frag) (pf : Str) (C fI : Addr) (f : Str) (z : IPos) : Prop where
  cls : ∃ nm q N bs bm sn sub ab col dd k0 k1 k2 k3 k5, K.lookup C = some (excClassObj nm q C N bs bm true sn sub ab col dd k0 k1 k2 k3 k5 "ValueError.__new__") ∧ refsVE bm = true
  sa : findIn K (.ref C) "__setattr__" = some (some (.builtin "object.__setattr__"))
  noN : findIn K (.ref C) f = some none
  iC : findIn K (.ref C) "__init__" = some (some (.ref fI))
  tC : typeIn K (.ref fI) = some (.type "function")
  sup : ks_superIn K C C "__init__" = some (some (.builtin "ValueError.__init__"))
  veC : subIn K (.ref C) (.type "ValueError") = some true
  mrC : mroIn K C (.ref C) = some true
  any : nsIn K cStatics "thirdparty.any" = some none
  ini : IniTxt K pf C fI f z
  bd : IniBind f z
  ev : IniEval f z
/-- what __init__ leaves of a fresh exception at x -/
structure InitEnd (h h' : Heap) (x C dx t1 : Addr) (f : Str) (v : Value) : Prop where
  keep : ∀ b o, b ≠ x → h.get? b = some o → h'.get? b = some o
  obj : h'.get? x = some { cls := .ref C, dict := some dx, data := .fields #[.ref t1, .none, .none, .none, .bool false, .none] }
  dbig : h.objs.size ≤ dx
  dne : dx ≠ x
  ns : h'.Ns1 dx (fun y => if y = f then some v else none)
section
variable {prog : Program} {w : World} {A : Around} {E : Value → Shared → Prop} {R : Result → Shared → Prop} {s : Shared} {K : Frag} {C fI : Addr} {f : Str}
theorem one_size (v : Value) : [v].length ≤ sizeLine := by
  rw [sizeLine_eq]
  exact (by decide : 1 ≤ 16777216)
theorem sup_init {z : IPos} (T : SupTxt K prog.main.file C fI f z) {x t0 : Addr} {v : Value} {mg mb : Str → Option Value} (X : K.In s.heap) (hlim : s.heap.NoLimit) (hx : s.heap.get? x = some (excO C t0)) (hnx : K.lookup x = none) (hroom : A.depth < recursionLimit)
    (hmg : s.heap.Ns mainGlobals mg) (hms : mg "super" = none) (hmb : s.heap.Ns builtinsNs mb) (hbs : mb "super" = some (.type "super")) (hmain : (prog.main.scope.names.lookup ("super" : Str)).isSome = false)
    (hq : ∀ h' tk dx t1, InitEnd s.heap h' x C dx t1 f v → R (.ok (.ret .none)) { s with heap := h', toks := tk }) :
    codeAny (model prog w) A (.call (.ref fI) ⟨[.ref x, v], []⟩) R s := by
  obtain ⟨oc, od, doc, pm, an, ct, osl, qual, cc, ca, ho, hcd, ⟨co, cvs, file, tf, hco, hcof, hcv, hfile⟩, ⟨oc2, hcc, hcell⟩⟩ := T.ini.ex
  have n1 := T.ini.n1
  have n2 := T.ini.n2
  have n3 := T.ini.n3
  have flip : ∀ {a b : Str}, (a == b) = false → (b == a) = false := fun {a b} h => by
    rw [beq_eq_false_iff_ne] at h ⊢; exact Ne.symm h
  have n1' := flip n1
  have n2' := flip n2
  have n3' := flip n3
  obtain ⟨nm, q, N, bs, bm, sn, sub, ab, col, dd, k0, k1, k2, k3, k5, hC, hbm⟩ := T.cls
  have hcl : clsIn K C = some { name := nm, bases := bs, mro := .ref C :: bm, ns := N, qualname := q, hasDict := true, slotNames := sn, subclasses := sub, abstract := ab, collection := col, hasDel := false } := by unfold clsIn; rw [hC] <;> rfl
  have lf : (iS f).names.lookup f = some .local := by show List.lookup f [(("self" : Str), NameKind.local), (f, .local), (("__class__" : Str), .free), (("super" : Str), .globalImplicit)] = _; simp [List.lookup, n1]
  have lc : (iS f).names.lookup ("__class__" : Str) = some .free := by
    show List.lookup ("__class__" : Str) [(("self" : Str), NameKind.local), (f, .local), (("__class__" : Str), .free), (("super" : Str), .globalImplicit)] = _
    have e : (("__class__" : Str) == ("self" : Str)) = false := by decide
    simp [List.lookup, n3', e]
  have ls : (iS f).names.lookup ("super" : Str) = some .globalImplicit := by
    show List.lookup ("super" : Str) [(("self" : Str), NameKind.local), (f, .local), (("__class__" : Str), .free), (("super" : Str), .globalImplicit)] = _
    have e : (("super" : Str) == ("self" : Str)) = false := by decide
    have e2 : (("super" : Str) == ("__class__" : Str)) = false := by decide
    simp [List.lookup, n2', e, e2]
  have hB := T.bd doc pm an ct qual cc ca s (.ref x) v
  refine ks_codeAny_call_defAt (binds := [("self", .ref x), (f, v)]) hroom (X _ _ ho) rfl hlim (codeRec_of X hcd) rfl hB (fun y hy => ?_) (fun y hy => ?_) (fun h₁ hn k => ?_) rfl rfl rfl
  · have hy' : y ∈ [(("self" : Str), NameKind.local), (f, .local), (("__class__" : Str), .free), (("super" : Str), .globalImplicit)] := hy
    simp at hy'
    rcases hy' with rfl | rfl | rfl | rfl <;> exact fun z => nomatch z
  · rcases List.mem_cons.mp hy with rfl | hy
    · rfl
    · rcases List.mem_cons.mp hy with rfl | hy
      · exact lf
      · cases hy
  have X₁ : K.In h₁ := X.keeps k
  have hx₁ := k _ _ hx
  have mself : (List.lookup ("self" : Str) [(f, v), (("self" : Str), Value.ref x)]) = some (.ref x) := by simp [List.lookup, n1']
  have mf : (List.lookup f [(f, v), (("self" : Str), Value.ref x)]) = some v := by simp [List.lookup]
  show wpAt _ _ _ (execs [.Expr (.Call (.Attribute (.Call (.Name "super" z.p0) [] [] z.p1) "__init__" z.p2) [.Name f z.p3] [] z.p4) z.p5, .Assign [.Attribute (.Name "self" z.p6) f z.p7] (.Name f z.p8) z.p9] _) _ _ _
  refine ks_wpAt_execs_cons (ks_wpAt_Expr_any ?_ rfl rfl)
  obtain ⟨pl, hev⟩ := T.ev (callEnv (ksFn "__init__" qual (iA f z) (iB f z) (iS f) .none .none doc pm an (.ref ca) ct cc) s.heap.objs.size fI)
  refine ks_wpAt_MethodCall ?_ hev
  refine ks_wpAt_super_base (f := fI) (cc := ca) ls lc (by decide) rfl (k _ _ (X _ _ ho)) rfl rfl rfl (X₁ _ _ hco) hcof hcv hfile hmain ?_
  refine ks_loadName_global rfl ls (Calls.loadGlobal_builtin (hmg.keeps k) hms (hmb.keeps k) hbs ⟨rfl, ?_⟩)
  refine wpAny_loadName_free (c := cc) (v := .ref C) rfl lc (by first | rfl | with_unfolding_all rfl) ⟨_, X₁ _ _ hcc, hcell⟩ ?_
  refine wpAny_loadName_local (v := .ref x) rfl (by first | rfl | with_unfolding_all rfl) hn mself ?_
  refine ks_wpAny_isType_cls (X₁ _ _ hC) rfl ⟨rfl, ?_⟩
  refine ks_wpAny_call_super (X₁ _ _ hC) rfl hx₁ rfl (fun c z => nomatch z) (looks_mroIn X₁ T.mrC) fun h₂ hs₂ k₂ => ?_
  have hlt : s.heap.objs.size < h₁.objs.size := hn.lt
  have hxL : s.heap.objs.size ≠ x := Nat.ne_of_gt (Heap.lt_size hx)
  have old : ∀ {a : Addr}, s.heap.objs.size ≤ a → s.heap.get? a = none := fun {a} ha => by
    cases e : s.heap.get? a with
    | none => rfl
    | some o => exact absurd (Heap.lt_size e) (Nat.not_lt.mpr ha)
  have F₂ : Fr s.heap s.heap.objs.size h₂ (fun y => List.lookup y [(("self" : Str), Value.ref x), (f, v)].reverse) := ⟨hn.keeps k₂, fun b o e => k₂ b o (k b o e), Nat.le_refl _⟩
  have N₂ : News s.heap s.heap.objs.size h₂ [(h₁.objs.size, ks_superObj C x C)] := fun p hp => by
    rw [List.mem_singleton.mp hp]
    exact ⟨hs₂, Nat.ne_of_gt hlt, old (Nat.le_of_lt hlt)⟩
  refine kxs_method kxs_ValueError F₂ X N₂ List.mem_cons_self (ox := excO C t0) (odx := none) ⟨k₂ _ _ hx₁, rfl, rfl, trivial⟩ T.any T.sup T.veC (by decide) fun u h₃ F₃ N₃ _ => ?_
  refine kxs_callWith1 N₃ List.mem_cons_self ?_ rfl rfl
  refine wpAny_items_cons (wpAny_Name (wpAny_loadName_local rfl lf F₃.ns mf (PyProof.Rows.spliced_none ⟨kxs_at N₃ List.mem_cons_self, ?_⟩)) T.ini.n4) rfl
  refine call_mw (F₃.keep _ _ (X _ _ hC)) (F₃.keep _ _ hx) (N₃ _ List.mem_cons_self).1 (one_size v) fun h₄ t1 k₄ hx₄ => ?_
  have hn₄ := F₃.ns.at (h' := h₄) fun o e => k₄ _ _ hxL e
  have X₄ : K.In h₄ := fun a o e => k₄ a o (fun z => by rw [z, hnx] at e; cases e) (F₃.keep _ _ (X a o e))
  refine ks_wpAt_execs_cons (ks_wpAt_Assign_Attr (wpAt_of_wpAny ?_) rfl)
  refine wpAny_Name (wpAny_loadName_local rfl lf hn₄ mf ?_) T.ini.n4
  refine wpAny_Name (wpAny_loadName_local (v := .ref x) rfl (by first | rfl | with_unfolding_all rfl) hn₄ mself ?_) (by decide)
  refine set_plain X₄ (ox := excO C t1) (od := none) ⟨hx₄, rfl, rfl, trivial⟩ T.sa ?_
  refine exc_osa X₄ hx₄ hcl (show refsVE (.ref C :: bm) = true from hbm) rfl T.noN (fun h₅ tk₅ dx k₅ dn dne hx₅ hn₅ => ?_)
  refine wpAt_of_wpAny (wpAny_execs_nil (hq h₅ tk₅ dx t1 ⟨fun b o hb e => k₅ b o hb (k₄ b o hb (F₃.keep b o e)), hx₅, Nat.le_of_lt (Nat.lt_of_lt_of_le hn₄.lt dn), dne, hn₅⟩))
/-- a made error -/
structure OwnMade (h h' : Heap) (e C d : Addr) (f : Str) (v : Value) : Prop where
  keep : ∀ b o, h.get? b = some o → h'.get? b = some o
  new : h.objs.size ≤ e
  obj : ∃ oe vs, h'.get? e = some oe ∧ oe.cls = .ref C ∧ oe.dict = some d ∧ oe.data = .fields vs ∧ vs[1]? = some .none
  dbig : h.objs.size ≤ d
  dne : d ≠ e
  ns : h'.Ns1 d (fun y => if y = f then some v else none)
theorem sup_made {z : IPos} (T : SupTxt K prog.main.file C fI f z) {v : Value} {mg mb : Str → Option Value} (X : K.In s.heap) (hlim : s.heap.NoLimit) (hroom : A.depth + 1 < recursionLimit)
    (hmg : s.heap.Ns mainGlobals mg) (hms : mg "super" = none) (hmb : s.heap.Ns builtinsNs mb) (hbs : mb "super" = some (.type "super")) (hmain : (prog.main.scope.names.lookup ("super" : Str)).isSome = false)
    (hq : ∀ h' tk e d, OwnMade s.heap h' e C d f v → R (.ok (.ret (.ref e))) { s with heap := h', toks := tk }) :
    codeAny (model prog w) A (.call (.ref C) ⟨[v], []⟩) R s := by
  obtain ⟨nm, q, N, bs, bm, sn, sub, ab, col, dd, k0, k1, k2, k3, k5, hC, hbm⟩ := T.cls
  obtain ⟨hp, g, dr, tk, os⟩ := s
  have k : ∀ b o, hp.get? b = some o → ((hp.push (kdv_tup [v])).push (excO C hp.objs.size)).get? b = some o := fun b o e => Heap.get?_push_of_some _ (Heap.get?_push_of_some _ e)
  have hget : ((hp.push (kdv_tup [v])).push (excO C hp.objs.size)).get? (hp.objs.size + 1) = some (excO C hp.objs.size) := by heap_get
  have hnx : K.lookup (hp.objs.size + 1) = none := by
    cases e : K.lookup (hp.objs.size + 1) with
    | none => rfl
    | some o =>
      have z : hp.get? (hp.objs.size + 1) = some o := X _ _ e
      exact absurd (Nat.lt_of_succ_lt (Heap.lt_size z)) (Nat.lt_irrefl _)
  refine call_own F.excBase_ValueError (fun X => refsVE_contains X bm hbm) (X _ _ hC) (looks_findIn X T.iC) (fun self => bind_fn X self T.tC) (one_size v) ?_
  refine sup_init (s := ⟨(hp.push (kdv_tup [v])).push (excO C hp.objs.size), g, dr, tk, os⟩) T (X.keeps k) (hlim.keeps k) hget hnx ?_ (hmg.keeps k) hms (hmb.keeps k) hbs hmain fun h' tk' dx t1 ⟨k', hx, dn, dne, hns⟩ => ?_
  · show A.depth + 1 < recursionLimit
    exact hroom
  · have old : ∀ b o, hp.get? b = some o → h'.get? b = some o := fun b o e => k' b o (Nat.ne_of_lt (Nat.lt_succ_of_lt (Heap.lt_size e))) (k b o e)
    have z : hp.objs.size + 1 + 1 ≤ dx := by
      first
        | (simpa only [Heap.size_push] using dn)
        | exact dn
        | (have q := dn; rw [Heap.size_push, Heap.size_push] at q; exact q)
    exact ⟨rfl, hq h' tk' (hp.objs.size + 1) dx ⟨old, Nat.le_succ _, ⟨_, _, hx, rfl, rfl, rfl, rfl⟩, Nat.le_trans (Nat.le_trans (Nat.le_succ _) (Nat.le_succ _)) z, dne, hns⟩⟩
end
end PySem.Sup
set_option Elab.async false
set_option linter.all false
set_option maxRecDepth 100000
set_option maxHeartbeats 400000
/-! ZD: errors: raise, try, fields of a caught error. -/
namespace Zy
open PySem PySem.Spec PyProof.Rows L2

/-- an own error class, its __init__ saying super().__init__(f); self.f = f -/
structure OwnErr (P : Program) (K : PySem.W.Frag) (mg : Str → Option Value) (x : Str) (C fI : Addr) (f : Str) (z : PySem.Sup.IPos) : Prop where
  sup : PySem.Sup.SupTxt K P.main.file C fI f z
  gC : mg x = some (.ref C)
  kC : PySem.W.keepIn K (.ref C) = true
  exC : PySem.W.subIn K (.ref C) (.type "BaseException") = some true
  tyC : PySem.W.typeIn K (.ref C) = some (.type "type")
  ga : PySem.W.findIn K (.ref C) "__getattribute__" = some (some (.builtin "BaseException.__getattribute__"))
  gg : PySem.W.findIn K (.ref C) "__getattr__" = some none
  hdC : PySem.W.hasDictIn K C = true
  ms : mg "super" = none
  main : (P.main.scope.names.lookup ("super" : Str)).isSome = false
theorem relO_one {f : Str} {v : V} {v' : Value} (r : RelV v v') (g : Str) : RelO (List.lookup g [(f, v)]) (if g = f then some v' else none) := by
  by_cases hw : g = f
  · subst hw
    rw [if_pos rfl]
    have q : List.lookup g [(g, v)] = some v := by simp [List.lookup]
    rw [q]
    exact r
  · rw [if_neg hw]
    have qw : (g == f) = false := by simpa using hw
    have q2 : List.lookup g [(f, v)] = none := by simp [List.lookup, qw]
    rw [q2]
    trivial
section
variable {X : Cx} {W : WX} {C fI : Addr} {f x : Str} {z : PySem.Sup.IPos}
/-- C(e) -/
def tMkOwn (C : Addr) (f : Str) (ta : TA) : L2.St → Hp → XK → Prop := fun σ H Q => ta σ H fun vs H1 => ∃ v, vs = [v] ∧ ∀ d, H1 d = none → Q (.ref C) (some d) (upd H1 d (.xd [(f, v)]))
theorem pmk_sup {a : Expr} {ta : TA} {p pos : Pos} {k : Nat} (T : OwnErr X.prog X.K X.mg x C fI f z) (hr : Room k X.A) (ha : PA X [a] ta) (hg : Gl X x := by rfl) (hd : (x == ("__debug__" : Str)) = false := by decide)
    (he : starEach (a :: []) X.env = (false, eval a X.env) :: starEach [] X.env := by rfl) (hpl : (backTo pos (starEach [] X.env)).any (·.1) = false := by rfl) :
    PMk X (.Call (.Name x p) [a] [] pos) (tMkOwn C f ta) := by
  intro pins s σ H Q I h
  refine wpAny_Call_Name_kw (ld_glob I hg T.gC ?_ hd)
  refine PySem.W.callWith_K (h₀ := X.base) I.ok.mod.kin T.kC (thn (ha.run pos pins s σ H _ I h) fun us s1 hh => ?_) he hpl
  obtain ⟨vs, H1, I1, r1, v, ev, q1⟩ := hh
  subst ev
  refine ⟨I1.kIn, ?_⟩
  obtain ⟨v', rfl, rv⟩ := vals1 r1
  show wpAny _ _ (call (.ref C) [v']) _ _ _
  have hlim := I1.nolimit
  obtain ⟨mb, hmb, hbx⟩ := (Inv.mod I1).blt
  have hbs : mb ("super" : Str) = some (.type "super") := (hbx _ (by decide)).trans PyProof.Rows.Boot.super
  have bk := Inv.bk I1
  obtain ⟨hp, g, dr, tk, os⟩ := s1
  refine wpAny_call (PySem.Sup.sup_made T.sup I1.kIn hlim (by have := hr.dp; omega) ((Inv.mod I1).glob.keeps bk) T.ms (hmb.keeps bk) hbs T.main fun h' tk' e d M => ?_)
  show MkP X pins σ Q (.ref e) ⟨h', g, dr, tk', os⟩
  obtain ⟨oe, fv, hoe, hc, hdd, hdat, h1⟩ := M.obj
  have hns := M.ns
  obtain ⟨G', g1, g2⟩ := restrict h' fun b => decide (b ≠ e)
  have gk : ∀ b, b ≠ e → G'.get? b = h'.get? b := fun b hb => g1 b (decide_eq_true hb)
  have ge : G'.get? e = none := g2 e (by simp)
  have old : ∀ b o, hp.get? b = some o → G'.get? b = some o := fun b o q => (gk b (Nat.ne_of_lt (Nat.lt_of_lt_of_le (Heap.lt_size q) M.new))).trans (M.keep b o q)
  have ob : ObjOk X.prog X.w (upd H1 d (.xd [(f, v)])) G' d (.xd [(f, v)]) :=
    ⟨_, hns.at (fun o q => (gk d M.dne).trans q), fun g => relO_one rv g⟩
  have J : Inv X pins σ (upd H1 d (.xd [(f, v)])) ⟨G', g, dr, tk', os⟩ := I1.laid (t' := tk') old M.dbig ob
  refine ⟨e, oe, fv, ⟨G', g, dr, tk', os⟩, _, .ref C, some d, rfl, J, fun b o q => ?_, ge, hoe, ⟨hc, hdd⟩, hdat, h1, ?_, rfl, I1.bare, raises_own T.exC T.tyC, q1 d (I1.hok.fresh M.dbig)⟩
  · by_cases hb : b = e
    · have q' : G'.get? b = some o := q
      rw [hb, ge] at q'; cases q'
    · exact (gk b hb).symm.trans q
  · rw [upd_ne (Ne.symm M.dne)]
    exact I1.hok.fresh M.new
/-- e.f, e the error that the suite holds -/
def tByF (C : Addr) (f : Str) (a : Addr) (cls : Value) (d : Option Addr) (te : TE) : TE := fun σ H Q => te σ H fun x H1 => x = .ref a ∧ cls = .ref C ∧ ∃ (dd : Addr) (v : V), d = some dd ∧ H1 dd = some (.xd [(f, v)]) ∧ Q v H1
theorem pe_byF {a : Addr} {oe : Obj} {cls : Value} {d : Option Addr} {pn : List (Addr × Obj)} {e : Expr} {te : TE} {pos : Pos} (T : OwnErr X.prog X.K X.mg x C fI f z) (hz : Zc cls d oe) (hf : ∃ vs, oe.data = .fields vs) (he : PE (X.suite a ((a, oe) :: pn)) e te)
    (hb : attributeBase e f X.env (eval e X.env) = eval e X.env := by rfl) :
    PE (X.suite a ((a, oe) :: pn)) (.Attribute e f pos) (tByF C f a cls d te) := by
  refine ⟨fun pins s σ H Q I h => ?_⟩
  refine attr_of hb (thn (he.run pins s σ H _ I h) fun u s1 hh => ?_)
  obtain ⟨x, H1, I1, rx, ex, ec, dd, v, ed, ea, q⟩ := hh
  subst ex
  obtain rfl : u = Value.ref a := rx
  subst ec
  subst ed
  obtain ⟨ha, _⟩ := I1.pin (a, oe) (List.mem_append_left _ List.mem_cons_self)
  obtain ⟨vs, hd⟩ := hf
  have hx : ObjOk X.prog X.w H1 s1.heap dd (.xd [(f, v)]) := I1.hok dd _ ea
  obtain ⟨mA, hns, hr⟩ := hx
  obtain ⟨od, ho, hl⟩ := lookIn_ns hns
  have l : List.lookup f [(f, v)] = some v := by simp [List.lookup]
  obtain ⟨u, hu, ru⟩ := RelO.some_of (v := v) (o := mA f) (by rw [← l]; exact hr f)
  have J : PySem.W.InstAt s1.heap a oe C (some od) := ⟨ha, hz.1, by unfold PySem.W.notCls; rw [hd] <;> rfl, by rw [hz.2]; exact ho⟩
  exact HandSPX.exc_get I1.kIn J T.ga T.gg T.exC (PySem.W.findObj_own T.hdC T.sup.noN rfl (by rw [hl, hu])) (handed_of ru) ⟨v, H1, I1.tok _, ru, q⟩
end
section
variable {X : Cx} {W : WX} {C fI : Addr} {f x : Str} {z : PySem.Sup.IPos}
/-- the error of C with the field y -/
def wGoErr (C : Addr) (f : Str) (er : Err → Mu → Prop) (y : D) (μ : Mu) : Prop := (∃ t, y = .t t ∧ er (.own C [f] [t]) μ) ∨ ∃ i t, y = .r i ∧ (μ[i]?).bind vwM = some t ∧ szT t ∧ er (.own C [f] [t]) (μ.set i .dead)
def wRaise (C : Addr) (f : Str) (we : WEx) : WSt := fun G ρ μ => we ρ μ (fun y μ1 => wGoErr C f (fun e μ => G.er e ρ μ) y μ1) fun e μ' => G.er e ρ μ'
theorem err_rep {K : PySem.W.Frag} {F' : Fz} {H' : Hp} {dd : Addr} {t : T} {v : V} (f' : F' dd) (hd : H' dd = some (.xd [(f, v)])) (r : Rep K F' H' t v) : ErrRep K F' H' (.own C [f] [t]) (.ref C) (some dd) :=
  ⟨rfl, dd, [v], rfl, f', hd, rfl, .cons r .nil⟩
theorem zs_raise {e : Expr} {p pos pos2 : Pos} {k : Nat} {we : WEx} (hc : X.calm = true) (T : OwnErr X.prog X.K X.mg x C fI f z) (hr : Room k X.A) (tk : Takes X W) (he : ZE X W e we) (hg : Gl X x := by rfl) (hd : (x == ("__debug__" : Str)) = false := by decide)
    (hs : starEach (e :: []) X.env = (false, eval e X.env) :: starEach [] X.env := by rfl) (hpl : (backTo pos (starEach [] X.env)).any (·.1) = false := by rfl) : ZS X W (.Raise (some (.Call (.Name x p) [e] [] pos)) none pos2) (wRaise C f we) :=
  ⟨PS.imp (ps_raise hc tk (pmk_sup T hr (za_cons he za_nil hs).pa hg hd hs hpl)) fun D σ H ⟨F, β, ρ, μ, G, s, l, g, w⟩ => by
    refine ⟨F, β, ρ, μ, fun ds μ1 => match ds with | [y] => wGoErr C f (fun e μ => G.er e ρ μ) y μ1 | _ => False, _, s, l, fun ds μ1 h vs H1 F1 β1 st1 s1 r1 => ?_, g.eok l, w⟩
    obtain ⟨y, rfl, hg⟩ : ∃ y, ds = [y] ∧ wGoErr C f (fun e μ => G.er e ρ μ) y μ1 := by
      match ds, h with
      | [y], h => exact ⟨y, rfl, h⟩
    obtain ⟨v, xr, rfl, r1, r2⟩ := r1
    cases (show xr = [] from r2)
    refine ⟨v, rfl, fun dd hd => ?_⟩
    clear h
    rcases hg with ⟨t, rfl, h⟩ | ⟨i, t, rfl, e1, zt, h⟩
    · have gr := Gro.new (o := .xd [(f, v)]) s1.ftr hd
      exact g.er _ ρ μ1 h (.ref C) (some dd) σ _ _ β1 (st1.trans gr.stp) (s1.gro gr) (l.stp (st1.trans gr.stp)) (err_rep (.inr rfl) upd_same (Rep.stp (β := β1) gr.stp t v r1))
    · obtain ⟨a, ha, rfl⟩ := r1
      obtain ⟨s2, st2⟩ := s1.freeze ha
      have rt := rep_of_now s1 ha e1 fun l hl => by rcases hl with rfl | rfl <;> exact zt
      have gr := Gro.new (o := .xd [(f, .ref a)]) s2.ftr hd
      have stt := st1.trans (st2.trans gr.stp)
      exact g.er _ ρ _ h (.ref C) (some dd) σ _ _ β1 stt (s2.gro gr) (l.stp stt) (err_rep (.inr rfl) upd_same (Rep.stp (β := β1) gr.stp t _ rt))⟩
/-! ### try -/
abbrev WSu := Addr → Value → Option Addr → WSt
def gSuite (G : Ez) (i : Nat) : Ez := { nx := fun ρ μ => G.nx (ρ.set i none) μ, rt := G.rt, bk := fun ρ μ => G.bk (ρ.set i none) μ, ct := fun ρ μ => G.ct (ρ.set i none) μ, er := fun _ _ _ => False }
def exmE (K : PySem.W.Frag) : Err → Value → Option Bool
  | .own C _ _, c => PySem.W.exmOne K (.ref C) c
  | .bi n, c => PySem.W.exmOne K (.type n) c
def wHnd (K : PySem.W.Frag) (G : Ez) : List (Value × Nat × WSu) → Err → En → Mu → Prop
  | [], e, ρ, μ => G.er e ρ μ
  | (c, i, ws) :: r, e, ρ, μ => ∃ b, exmE K e c = some b ∧ if b = true then (match e with
      | .own C ns l => ∀ a dd, ws a (.ref C) (some dd) (gSuite G i) (ρ.set i (some (.t (.er a dd ns l)))) μ
      | .bi n => ∀ a d, ws a (.type n) d (gSuite G i) (ρ.set i (some (.t (.ob a)))) μ) else wHnd K G r e ρ μ
def wTry (K : PySem.W.Frag) (wb : WSt) (cl : List (Value × Nat × WSu)) : WSt := fun G ρ μ => wb { G with er := wHnd K G cl } ρ μ
theorem Slo.del {K : PySem.W.Frag} {F : Fz} {β : List Addr} {H : Hp} {ρ : En} {σ : L2.St} (l : Slo K F β H ρ σ) (i : Nat) (o : Option V) : Slo K F β H (ρ.set i none) (σ.set i o) := by
  refine ⟨by simpa using l.len, fun j d e => ?_⟩
  by_cases hj : i = j
  · subst hj
    by_cases hi : i < ρ.length
    · rw [List.getElem?_set_self hi] at e; cases e
    · rw [List.getElem?_eq_none (by simpa using hi)] at e; cases e
  · rw [List.getElem?_set_ne hj] at e
    obtain ⟨x, e', r⟩ := l.ok j d e
    exact ⟨x, by rw [List.getElem?_set_ne hj]; exact e', r⟩
theorem ezok_suite {K : PySem.W.Frag} {F : Fz} {β : List Addr} {H : Hp} {G : Ez} {D : Ends} (g : EzOk K W F β H G D) (i : Nat) : EzOk K W0 F β H (gSuite G i) (endsAs D i) :=
  ⟨fun ρ' μ' h σ' H' F' β' st s l => g.nx _ μ' h _ H' F' β' st s (l.del i none), g.rt, fun ρ' μ' h σ' H' F' β' st s l => g.bk _ μ' h _ H' F' β' st s (l.del i none), fun ρ' μ' h σ' H' F' β' st s l => g.ct _ μ' h _ H' F' β' st s (l.del i none), fun _ _ _ h => h.elim⟩
/-- the clauses' suites -/
inductive ZHds (X : Cx) : List ExceptHandler → List (Value × Nat × WSu) → Prop where
  | nil : ZHds X [] []
  | cons {x n : Str} {c : Value} {i : Nat} {ws : WSu} {b₀ : Stmt} {suite : List Stmt} {np pos' : Pos} {hds : List ExceptHandler} {l : List (Value × Nat × WSu)} (hi : X.N[i]? = some n) (hln : X.env.kindOf n = some .local) (hc : Names X x c)
      (hsu : ∀ (a : Addr) (oe : Obj) (cls : Value) (d : Option Addr) (pn : List (Addr × Obj)), Zc cls d oe → (∃ vs, oe.data = .fields vs) → ZSs (X.suite a ((a, oe) :: pn)) W0 (b₀ :: suite) (ws a cls d)) (r : ZHds X hds l) :
      ZHds X (.ExceptHandler (some (.Name x np)) (some n) (b₀ :: suite) pos' :: hds) ((c, i, ws) :: l)
def suT (K : PySem.W.Frag) (cl : List (Value × Nat × WSu)) : List (Value × Nat × Suite) := cl.map fun p => (p.1, p.2.1, fun a cls d => tS K W0 (p.2.2 a cls d))
theorem ZHds.as {hds : List ExceptHandler} {cl : List (Value × Nat × WSu)} (h : ZHds X hds cl) : HdsAs X hds (suT X.K cl) := by
  induction h with
  | nil => exact .nil
  | cons hi hln hc hsu r ih => exact .cons hi hln hc (fun a oe cls d pn h1 h2 => (hsu a oe cls d pn h1 h2).pss) ih
theorem hnd_as {K : PySem.W.Frag} {F : Fz} {β : List Addr} {H : Hp} {μ : Mu} {ρ : En} {σ : L2.St} {G : Ez} {D : Ends} (s : Sto K F β H μ) (l : Slo K F β H ρ σ) (g : EzOk K W F β H G D) {e : Err} {c : Value} {d : Option Addr} (r : ErrRep K F H e c d) :
    ∀ cl : List (Value × Nat × WSu), wHnd K G cl e ρ μ → wAsM K W D (suT K cl) c d σ H
  | [], h => g.er e ρ μ h c d σ H F β .refl s l r
  | (c1, i, ws) :: cl, ⟨b, h1, h2⟩ => by
    cases e with
    | own C ns ts =>
      obtain ⟨rfl, dd, xs, rfl, fd, hd, hl, rl⟩ := r
      refine ⟨b, h1, fun hb a ha => ?_, fun hb => ?_⟩
      · rw [if_pos hb] at h2
        have ra : Rep K F H (.er a dd ns ts) (.ref a) := by unfold Rep; exact ⟨rfl, xs, fd, hd, hl, rl⟩
        exact ⟨F, β, _, μ, _, s, l.set i (d := .t (.er a dd ns ts)) ra, ezok_suite g i, h2 a dd⟩
      · rw [if_neg (by rw [hb]; exact Bool.false_ne_true)] at h2
        exact hnd_as s l g (e := .own C ns ts) ⟨rfl, dd, xs, rfl, fd, hd, hl, rl⟩ cl h2
    | bi n =>
      obtain rfl : c = .type n := r
      refine ⟨b, h1, fun hb a ha => ?_, fun hb => ?_⟩
      · rw [if_pos hb] at h2
        exact ⟨F, β, _, μ, _, s, l.set i (d := .t (.ob a)) (@rep_ob K F H a), ezok_suite g i, h2 a d⟩
      · rw [if_neg (by rw [hb]; exact Bool.false_ne_true)] at h2
        exact hnd_as s l g (e := .bi n) rfl cl h2
theorem zs_try {body : List Stmt} {h₀ : ExceptHandler} {hds : List ExceptHandler} {cl : List (Value × Nat × WSu)} {pos : Pos} {wb : WSt} (hs : X.stack = X.env :: X.outer) (hf : X.env.frame = some X.env.locals) (hN : X.N.Nodup) (tk : Takes X W)
    (hb : ∀ (W' : WX) (pn : List (Addr × Obj)) (xe : Value → Shared → Prop), Takes (X.tr pn xe) W' → PassesOwn (model X.prog X.w) X.A X.env xe → ZSs (X.tr pn xe) W' body wb) (hh : ZHds X (h₀ :: hds) cl) :
    ZS X W (.Try body (h₀ :: hds) [] [] pos) (wTry X.K wb cl) :=
  ⟨PS.imp (ps_try_asM (tb := fun W' => tS X.K W' wb) hs hf hN tk (fun W' pn xe h1 h2 => (hb W' pn xe h1 h2).pss) hh.as) fun D σ H ⟨F, β, ρ, μ, G, s, l, g, w⟩ =>
    ⟨F, β, ρ, μ, { G with er := wHnd X.K G cl }, s, l, ⟨g.nx, g.rt, g.bk, g.ct, fun e ρ' μ' h c d σ' H' F' β' st s' l' r' => hnd_as s' l' (g.stp st) r' cl h⟩, w⟩⟩
/-- the field of a caught error -/
def wErrF (C : Addr) (f : Str) (a : Addr) (cls : Value) (d : Option Addr) (we : WEx) : WEx := fun ρ μ Q E => we ρ μ (fun y μ1 => ∃ dd t, y = .t (.er a dd [f] [t]) ∧ cls = .ref C ∧ d = some dd ∧ Q (.t t) μ1) E
theorem ze_errf {a : Addr} {oe : Obj} {cls : Value} {d : Option Addr} {pn : List (Addr × Obj)} {e : Expr} {we : WEx} {pos : Pos} (T : OwnErr X.prog X.K X.mg x C fI f z) (hz : Zc cls d oe) (hf : ∃ vs, oe.data = .fields vs) (he : ZE (X.suite a ((a, oe) :: pn)) W e we)
    (hb : attributeBase e f X.env (eval e X.env) = eval e X.env := by rfl) : ZE (X.suite a ((a, oe) :: pn)) W (.Attribute e f pos) (wErrF C f a cls d we) :=
  ⟨PE.imp (pe_byF T hz hf he.pe hb) fun σ H Q ⟨F, β, ρ, μ, Qd, Ed, s, l, q, o, w⟩ => ⟨F, β, ρ, μ, _, Ed, s, l, fun y μ1 ⟨dd, t, h1, h2, h3, h4⟩ v H1 F1 β1 st s1 r1 => by
    subst h1
    have r1' : Rep X.K F1 H1 (.er a dd [f] [t]) v := r1
    unfold Rep at r1'
    obtain ⟨rfl, xs, fd, hd, hl, rl⟩ := r1'
    unfold RepL at rl
    obtain ⟨u, ur, rfl, ru, r2⟩ := rl
    unfold RepL at r2
    subst r2
    exact ⟨rfl, h2, dd, u, h3, hd, q _ μ1 h4 u H1 F1 β1 st s1 ru⟩, o, w⟩⟩
end
end Zy
set_option Elab.async false
set_option linter.all false
set_option maxRecDepth 100000
set_option maxHeartbeats 1000000
/-! ZH: the head's facts, with own error classes. -/
namespace Zy
open PySem PySem.Spec PyProof.Rows L2 PySem.Sup
structure EcD where
  x : Str
  f : Str
  qual : Str
  z : IPos
def ecF (K : PySem.W.Frag) (x : Str) : Addr := He.ma K (He.ga K x) "__init__"
def eqV1 (a b : Option Value) : Bool := decide (a = b)
def eqB1 (a : Option Bool) : Bool := decide (a = some true)
def ecCls (C : Addr) : Option Obj → Bool
  | some ⟨.type "type", _, .cls cd, sl⟩ => match cd.mro, sl.toList with
    | .ref C' :: bm, [_, _, _, _, some (.builtin n), _] => C' == C && n == "ValueError.__new__" && cd.hasDict && !cd.hasDel && HandSPX.refsVE bm
    | _, _ => false
  | _ => false
def ecCode (K : PySem.W.Frag) (pf : Str) : Value → Bool
  | .ref ca => match K.lookup ca with
    | some ⟨_, _, .fields vs, _⟩ => match (vs[2]? : Option Value) with
      | some (.str file _) => pf == file
      | _ => false
    | _ => false
  | _ => false
def ecClo (K : PySem.W.Frag) (C : Addr) : List (Str × Addr) → Bool
  | [(n, cc)] => n == ("__class__" : Str) && match K.lookup cc with
    | some ⟨_, _, .cell (some (.ref C2)), _⟩ => C2 == C
    | _ => false
  | _ => false
def isNoneV : Value → Bool
  | .none => true
  | _ => false
def ecFn (K : PySem.W.Frag) (pf : Str) (C : Addr) (q : Str) : Option Obj → Bool
  | some ⟨_, _, .func fd, _⟩ => isNoneV fd.defaults && isNoneV fd.kwdefaults && PySem.W.codeIn K fd.code q && ecCode K pf fd.code && ecClo K C fd.closure
  | _ => false
def ecB (K : PySem.W.Frag) (pf : Str) (d : EcD) : Bool :=
  He.Fa.ok K (.glo d.x) && (He.Fa.ok K (.keep d.x) && (ecCls (He.ga K d.x) (K.lookup (He.ga K d.x)) &&
  (He.eqO (PySem.W.findIn K (.ref (He.ga K d.x)) "__setattr__") (some (some (.builtin "object.__setattr__"))) &&
  (He.eqO (PySem.W.findIn K (.ref (He.ga K d.x)) d.f) (some none) &&
  (He.eqO (PySem.W.findIn K (.ref (He.ga K d.x)) "__init__") (some (some (.ref (ecF K d.x)))) &&
  (eqV1 (PySem.W.typeIn K (.ref (ecF K d.x))) (some (.type "function")) &&
  (He.eqO (PySem.W.ks_superIn K (He.ga K d.x) (He.ga K d.x) "__init__") (some (some (.builtin "ValueError.__init__"))) &&
  (eqB1 (PySem.W.subIn K (.ref (He.ga K d.x)) (.type "ValueError")) &&
  (eqB1 (PySem.W.mroIn K (He.ga K d.x) (.ref (He.ga K d.x))) &&
  (He.eqO (PySem.W.nsIn K cStatics "thirdparty.any") (some none) &&
  (eqB1 (PySem.W.subIn K (.ref (He.ga K d.x)) (.type "BaseException")) &&
  (eqV1 (PySem.W.typeIn K (.ref (He.ga K d.x))) (some (.type "type")) &&
  (He.eqO (PySem.W.findIn K (.ref (He.ga K d.x)) "__getattribute__") (some (some (.builtin "BaseException.__getattribute__"))) &&
  (He.eqO (PySem.W.findIn K (.ref (He.ga K d.x)) "__getattr__") (some none) &&
  (PySem.W.hasDictIn K (He.ga K d.x) && ecFn K pf (He.ga K d.x) d.qual (K.lookup (ecF K d.x)))))))))))))))))
abbrev EcW : Type := Option (Str × Str × Arguments × FuncBody × Scope × Addr × Addr)
def ecW (K : PySem.W.Frag) (x : Str) : EcW := match K.lookup (ecF K x) with
  | some ⟨_, _, .func fd, _⟩ => some (fd.name, fd.qualname, fd.params, fd.body, fd.scope, fd.globals, fd.builtins)
  | _ => none
def EcD.val (d : EcD) : EcW := some ("__init__", d.qual, iA d.f d.z, .stmts (iB d.f d.z), iS d.f, mainGlobals, builtinsNs)
/-- what of an error's text is plain -/
structure EcT (d : EcD) : Prop where
  n1 : (d.f == ("self" : Str)) = false
  n2 : (d.f == ("super" : Str)) = false
  n3 : (d.f == ("__class__" : Str)) = false
  n4 : (d.f == ("__debug__" : Str)) = false
  bd : IniBind d.f d.z
  ev : IniEval d.f d.z
theorem and2 {a b : Bool} (h : (a && b) = true) : a = true ∧ b = true := Bool.and_eq_true_iff.mp h
theorem cls_of {C : Addr} {o : Option Obj} (h : ecCls C o = true) : ∃ nm q N bs bm sn sub ab col dd k0 k1 k2 k3 k5, o = some (excClassObj nm q C N bs bm true sn sub ab col dd k0 k1 k2 k3 k5 "ValueError.__new__") ∧ HandSPX.refsVE bm = true := by
  unfold ecCls at h
  split at h
  · rename_i dct cd sl
    split at h
    · rename_i C' bm a0 a1 a2 a3 n a5 h1 h2
      obtain ⟨h, e5⟩ := and2 h
      obtain ⟨h, e4⟩ := and2 h
      obtain ⟨h, e3⟩ := and2 h
      obtain ⟨e1, e2⟩ := and2 h
      have e1' : C' = C := by simpa using e1
      have e2' : n = "ValueError.__new__" := by simpa using e2
      subst e1' e2'
      obtain ⟨nm, bs, mro, ns, q, hd, sn, sub, ab, col, del⟩ := cd
      have hm : mro = .ref C' :: bm := h1
      have hd' : hd = true := e3
      have hl : del = false := by simpa using e4
      subst hm hd' hl
      refine ⟨nm, q, ns, bs, bm, sn, sub, ab, col, dct, a0, a1, a2, a3, a5, ?_, e5⟩
      have : sl = #[a0, a1, a2, a3, some (.builtin "ValueError.__new__"), a5] := by
        apply Array.toList_inj.mp
        rw [h2]
      subst this
      rfl
    · cases h
  · cases h
theorem code_of {K : PySem.W.Frag} {pf : Str} {v : Value} (h : ecCode K pf v = true) : ∃ ca, v = .ref ca ∧ ∃ co vs file tf, K.lookup ca = some co ∧ co.data = .fields vs ∧ vs[2]? = some (.str file tf) ∧ (pf == file) = true := by
  cases v with
  | ref ca =>
    have h' : (match K.lookup ca with | some ⟨_, _, .fields vs, _⟩ => (match (vs[2]? : Option Value) with | some (.str file _) => pf == file | _ => false) | _ => false) = true := h
    cases e : K.lookup ca with
    | none => rw [e] at h'; cases h'
    | some o =>
      obtain ⟨c, d, dt, sl⟩ := o
      rw [e] at h'
      cases dt with
      | fields vs =>
        have h2 : (match (vs[2]? : Option Value) with | some (.str file _) => pf == file | _ => false) = true := h'
        cases e2 : vs[2]? with
        | none => rw [e2] at h2; cases h2
        | some u =>
          rw [e2] at h2
          cases u with
          | str file tf => exact ⟨ca, rfl, _, vs, file, tf, e, rfl, e2, h2⟩
          | _ => cases h2
      | _ => cases h'
  | _ => cases h
theorem clo_of {K : PySem.W.Frag} {C : Addr} {clo : List (Str × Addr)} (h : ecClo K C clo = true) : ∃ cc, clo = [(("__class__" : Str), cc)] ∧ ∃ oc2, K.lookup cc = some oc2 ∧ oc2.data = .cell (some (.ref C)) := by
  match clo, h with
  | [(n, cc)], h =>
    obtain ⟨b1, b2⟩ := and2 h
    have b1' : n = ("__class__" : Str) := by simpa using b1
    subst b1'
    refine ⟨cc, rfl, ?_⟩
    cases e : K.lookup cc with
    | none => rw [e] at b2; cases b2
    | some o =>
      obtain ⟨c, d, dt, sl⟩ := o
      rw [e] at b2
      cases dt with
      | cell v =>
        cases v with
        | none => cases b2
        | some u =>
          cases u with
          | ref C2 =>
            have : C2 = C := by simpa using b2
            subst this
            exact ⟨_, rfl, rfl⟩
          | _ => cases b2
      | _ => cases b2
theorem ec_ok {K : PySem.W.Frag} {pf : Str} {d : EcD} (h : ecB K pf d = true) (hw : ecW K d.x = d.val) (t : EcT d) : SupTxt K pf (He.ga K d.x) (ecF K d.x) d.f d.z := by
  unfold ecB at h
  obtain ⟨h1, h⟩ := and2 h
  obtain ⟨h2, h⟩ := and2 h
  obtain ⟨h3, h⟩ := and2 h
  obtain ⟨h4, h⟩ := and2 h
  obtain ⟨h5, h⟩ := and2 h
  obtain ⟨h6, h⟩ := and2 h
  obtain ⟨h7, h⟩ := and2 h
  obtain ⟨h8, h⟩ := and2 h
  obtain ⟨h9, h⟩ := and2 h
  obtain ⟨h10, h⟩ := and2 h
  obtain ⟨h11, h⟩ := and2 h
  obtain ⟨h12, h⟩ := and2 h
  obtain ⟨h13, h⟩ := and2 h
  obtain ⟨h14, h⟩ := and2 h
  obtain ⟨h15, h⟩ := and2 h
  obtain ⟨h16, h17⟩ := and2 h
  refine ⟨cls_of h3, He.eqO_ok h4, He.eqO_ok h5, He.eqO_ok h6, of_decide_eq_true h7, He.eqO_ok h8, of_decide_eq_true h9, of_decide_eq_true h10, He.eqO_ok h11, ?_, t.bd, t.ev⟩
  refine ⟨?_, t.n1, t.n2, t.n3, t.n4⟩
  unfold ecW EcD.val at hw
  unfold ecFn at h17
  split at h17
  · rename_i oc od fd osl hl
    rw [hl] at hw
    have hw' := Option.some.inj hw
    obtain ⟨h17, c5⟩ := and2 h17
    obtain ⟨h17, c4⟩ := and2 h17
    obtain ⟨h17, c3⟩ := and2 h17
    obtain ⟨c1, c2⟩ := and2 h17
    obtain ⟨nm, qn, pa, bo, sc, gl, clo, df, kdf, doc, pm, an, cod, ct, bl⟩ := fd
    simp only [Prod.mk.injEq] at hw'
    obtain ⟨rfl, rfl, rfl, rfl, rfl, rfl, rfl⟩ := hw'
    have c1' : isNoneV df = true := c1
    have c2' : isNoneV kdf = true := c2
    have e1 : df = .none := by unfold isNoneV at c1'; split at c1' <;> first | rfl | cases c1'
    have e2 : kdf = .none := by unfold isNoneV at c2'; split at c2' <;> first | rfl | cases c2'
    subst e1 e2
    have c4' : ecCode K pf cod = true := c4
    have c5' : ecClo K (He.ga K d.x) clo = true := c5
    obtain ⟨ca, rfl, x1⟩ := code_of c4'
    obtain ⟨cc, rfl, x2⟩ := clo_of c5'
    exact ⟨oc, od, doc, pm, an, ct, osl, _, cc, ca, hl, c3, x1, x2⟩
  · cases h17
/-! ### the hook -/
def ecCells (K : PySem.W.Frag) (d : EcD) : List Addr := match K.lookup (ecF K d.x) with
  | some ⟨_, _, .func fd, _⟩ => fd.closure.map (·.2)
  | _ => []
def exA (K : PySem.W.Frag) (ds : List EcD) : List Addr := cStatics :: (ds.map (ecCells K)).flatten
def fragX (g : Addr → Option Obj) (n : Nat) (ds : List EcD) : PySem.W.Frag := He.frG g (He.asD g n ++ exA (He.frG g (He.asD g n)) ds)
abbrev AlX : Type := He.AlD × Bool × List EcW
def obsK (fa : List He.Fa) (fn : List He.DefD) (pf : Str) (ds : List EcD) (K : PySem.W.Frag) : AlX := (He.obsD fa fn K, ds.all (ecB K pf), ds.map fun d => ecW K d.x)
def obsX (n : Nat) (fa : List He.Fa) (fn : List He.DefD) (pf : Str) (ds : List EcD) (g : Addr → Option Obj) : AlX := obsK fa fn pf ds (fragX g n ds)
def valX (fn : List He.DefD) (ds : List EcD) : AlX := (He.valD fn, true, ds.map EcD.val)
def SaysX (fa : List He.Fa) (fn : List He.DefD) (pf : Str) (ds : List EcD) (K : PySem.W.Frag) : Prop := obsK fa fn pf ds K = valX fn ds
def hookX (n : Nat) (fa : List He.Fa) (fn : List He.DefD) (pf : Str) (ds : List EcD) : PySem.W.Hook where
  α := AlX
  obs := fun s => obsX n fa fn pf ds s.heap.get?
  val := fun _ => valX fn ds
  says := fun _ h => ∃ K : PySem.W.Frag, K.In h ∧ SaysX fa fn pf ds K
  of := fun w s h => ⟨_, He.frG_in, h⟩
  keeps := fun w h h' ⟨K, X, c⟩ k => ⟨K, X.keeps k, c⟩
theorem obsX_eq {n : Nat} {fa : List He.Fa} {fn : List He.DefD} {pf : Str} {ds : List EcD} {g : Addr → Option Obj} {s : Shared} (h : ∀ a, g a = s.heap.get? a) : obsX n fa fn pf ds g = (hookX n fa fn pf ds).obs s := by
  have e : g = s.heap.get? := funext h
  rw [e]; rfl
section
variable {fa : List He.Fa} {fn : List He.DefD} {pf : Str} {ds : List EcD} {K : PySem.W.Frag}
theorem SaysX.d (h : SaysX fa fn pf ds K) : He.SaysD fa fn K := congrArg (fun x : AlX => x.1) h
theorem SaysX.ec (h : SaysX fa fn pf ds K) (i : Nat) {d : EcD} (e : ds[i]? = some d := by rfl) : ecB K pf d = true ∧ ecW K d.x = d.val := by
  have h1 : ds.all (ecB K pf) = true := congrArg (fun x : AlX => x.2.1) h
  have h2 : ds.map (fun d => ecW K d.x) = ds.map EcD.val := congrArg (fun x : AlX => x.2.2) h
  refine ⟨List.all_eq_true.mp h1 d (List.mem_of_getElem? e), ?_⟩
  have := congrArg (fun l : List EcW => l[i]?) h2
  simp only [List.getElem?_map, e] at this
  exact Option.some.inj this
/-- an own error class by the facts -/
theorem SaysX.own {P : Program} {mg : Str → Option Value} {h : Heap} (X : K.In h) (G : h.Ns mainGlobals mg) (S : SaysX fa fn P.main.file ds K) (i : Nat) {d : EcD} (t : EcT d) (hs : mg "super" = none) (hm : (P.main.scope.names.lookup ("super" : Str)).isSome = false) (e : ds[i]? = some d := by rfl) :
    OwnErr P K mg d.x (He.ga K d.x) (ecF K d.x) d.f d.z := by
  obtain ⟨hb, hw⟩ := S.ec i e
  have T := ec_ok hb hw t
  unfold ecB at hb
  obtain ⟨h1, hb⟩ := and2 hb
  obtain ⟨h2, hb⟩ := and2 hb
  obtain ⟨h3, hb⟩ := and2 hb
  obtain ⟨h4, hb⟩ := and2 hb
  obtain ⟨h5, hb⟩ := and2 hb
  obtain ⟨h6, hb⟩ := and2 hb
  obtain ⟨h7, hb⟩ := and2 hb
  obtain ⟨h8, hb⟩ := and2 hb
  obtain ⟨h9, hb⟩ := and2 hb
  obtain ⟨h10, hb⟩ := and2 hb
  obtain ⟨h11, hb⟩ := and2 hb
  obtain ⟨h12, hb⟩ := and2 hb
  obtain ⟨h13, hb⟩ := and2 hb
  obtain ⟨h14, hb⟩ := and2 hb
  obtain ⟨h15, hb⟩ := and2 hb
  obtain ⟨h16, h17⟩ := and2 hb
  exact ⟨T, He.glo_ok X G h1, He.keep_ok h2, of_decide_eq_true h12, of_decide_eq_true h13, He.eqO_ok h14, He.eqO_ok h15, h16, hs, hm⟩
end
end Zy
set_option Elab.async false
set_option linter.all false
set_option maxRecDepth 100000
set_option maxHeartbeats 400000
/-! ZF: defs by their specs; pure ones. -/
namespace Zy
open PySem PySem.Spec PyProof.Rows L2
section
variable {P : Program} {w : World} {K : PySem.W.Frag} {mg : Str → Option Value} {base : Heap}
theorem FnOk.weak {CX : CXT} {k : Nat} {f : Addr} {fd : FuncData} {ps : List Str} {sp sp' : Sp} (h : FnOk P w K mg base CX k f fd ps sp) (q : ∀ vs H Q E, sp' vs H Q E → sp vs H Q E) : FnOk P w K mg base CX k f fd ps sp' :=
  ⟨fun vs H Q E z => h.len vs H Q E (q vs H Q E z), fun A outer s H args us vs Q E r e b v z => h.run A outer s H args us vs Q E r e b v (q vs H Q E z)⟩
theorem FnOk.up {CX : CXT} {k j : Nat} {f : Addr} {fd : FuncData} {ps : List Str} {sp : Sp} (h : FnOk P w K mg base CX k f fd ps sp) (hj : k ≤ j) : FnOk P w K mg base CX j f fd ps sp :=
  ⟨h.len, fun A outer s H args us vs Q E r e b v z => h.run A outer s H args us vs Q E (r.mono hj) e b v z⟩
theorem spZ_weak {n : Nat} {w1 w2 : WFn} (q : ∀ ds μ Q E, ds.length = n → w2 ds μ Q E → w1 ds μ Q E) {vs : List V} {H : Hp} {Q : VK} {E : XK} (h : spZ K n w2 vs H Q E) : spZ K n w1 vs H Q E := by
  obtain ⟨F, β, ds, μ, Qd, Ed, hl, s, r, a, b, h⟩ := h
  exact ⟨F, β, ds, μ, Qd, Ed, hl, s, r, a, b, q _ _ _ _ hl h⟩
/-- a pure def: by a function on trees -/
def pur (f : List T → Option T) : WFn := fun ds μ Q _ => ∃ ts r, ds = ts.map .t ∧ f ts = some r ∧ ∀ g, Q (.t r) (μ ++ g)
/-- THE RULE for a def by its spec -/
theorem fun_spec {k : Nat} {name qual : Str} {params : Arguments} {body : List Stmt} {scope : Scope} {dvs : List V} {kws : List (Str × V)} {f : Addr} {fd : FuncData} {N ps : List Str} {wb : WSt} {spec : WFn} (Fd : FunD K name qual params body scope dvs kws f fd) (S : FnScope N ps scope)
    (hb : ∀ (cdv : Value) (A : Around) (outer : List PySem.Env) (s : Shared) (H : Hp) (E : XK), Room k (A.deeper (envOfC qual scope s.heap.objs.size f cdv)) →
      ZSs (cxOf (L2.CX P w) P w K mg base N qual scope f cdv A outer s H E) (fun c d _ H' => E c d H') body wb)
    (hs : ∀ ds μ Q E, ds.length = ps.length → spec ds μ Q E → wFun N.length wb ds μ Q E) :
    FnOk P w K mg base (L2.CX P w) (k + 1) f fd ps (spZ K ps.length spec) :=
  FnOk.weak (fun_ok Fd S hb) fun vs H Q E h => spZ_weak hs h
end
end Zy
set_option Elab.async false
set_option linter.all false
set_option maxRecDepth 100000
set_option maxHeartbeats 400000
/-! ZG: pure code as functions on trees: no promise to prove, the function is the spec. -/
namespace Zy
open PySem PySem.Spec PyProof.Rows L2
/-- what pure code comes to: nothing known, a value, an error -/
inductive Pr (α : Type) where
  | bad | ok (a : α) | er (e : Err)
def Pr.bind {α β : Type} : Pr α → (α → Pr β) → Pr β
  | .bad, _ => .bad
  | .ok a, f => f a
  | .er e, _ => .er e
def Pr.of {α : Type} : Option α → Pr α
  | none => .bad
  | some a => .ok a
def Pr.run {α : Type} (x : Pr α) (Q : α → Prop) (E : Err → Prop) : Prop := match x with
  | .bad => False
  | .ok a => Q a
  | .er e => E e
theorem Pr.run_bind {α β : Type} {x : Pr α} {f : α → Pr β} {Q : β → Prop} {E : Err → Prop} (h : (x.bind f).run Q E) : x.run (fun a => (f a).run Q E) E := by
  cases x <;> exact h
theorem Pr.run_of {α : Type} {x : Option α} {Q : α → Prop} {E : Err → Prop} (h : (Pr.of x).run Q E) : ∃ a, x = some a ∧ Q a := by
  cases x with
  | none => exact h.elim
  | some a => exact ⟨a, rfl, h⟩
theorem Pr.run_mono {α : Type} {x : Pr α} {Q Q' : α → Prop} {E E' : Err → Prop} (h : x.run Q E) (q : ∀ a, Q a → Q' a) (e : ∀ a, E a → E' a) : x.run Q' E' := by
  cases x with
  | bad => exact h
  | ok a => exact q a h
  | er a => exact e a h
abbrev Gx := En → Mu → Pr T
abbrev Gb := En → Mu → Pr Bool
abbrev Ga := En → Mu → Pr (List T)
def wP (g : Gx) : WEx := fun ρ μ Q E => (g ρ μ).run (fun t => Q (.t t) μ) fun e => E e μ
def wV (g : Gx) : WEx := fun ρ μ Q E => (g ρ μ).run (fun t => ∀ d, vw μ d = some t → Q d μ) fun e => E e μ
def wPT (g : Gb) : WTs := fun ρ μ Q E => (g ρ μ).run (fun b => Q b μ) fun e => E e μ
def wPA (g : Ga) : WAr := fun ρ μ Q E => (g ρ μ).run (fun ts => Q (ts.map .t) μ) fun e => E e μ
def wVA (g : Ga) : WAr := fun ρ μ Q E => (g ρ μ).run (fun ts => ∀ ds, vws μ ds = some ts → Q ds μ) fun e => E e μ
section
variable {X : Cx} {W : WX} {e a b c : Expr} {es : List Expr} {pos p p2 : Pos} {g ga gb : Gx} {gs : Ga}
theorem tE_mono {K : PySem.W.Frag} {w w' : WEx} (f : ∀ ρ μ Q E, w' ρ μ Q E → w ρ μ Q E) : ∀ σ H Q, tE K W w' σ H Q → tE K W w σ H Q := fun σ H Q ⟨F, β, ρ, μ, Qd, Ed, s, l, q, o, h⟩ => ⟨F, β, ρ, μ, Qd, Ed, s, l, q, o, f _ _ _ _ h⟩
theorem ZE.imp {w w' : WEx} (h : ZE X W e w) (f : ∀ ρ μ Q E, w' ρ μ Q E → w ρ μ Q E) : ZE X W e w' := ⟨PE.imp h.pe (tE_mono f)⟩
theorem ZT.imp {w w' : WTs} (h : ZT X W e w) (f : ∀ ρ μ Q E, w' ρ μ Q E → w ρ μ Q E) : ZT X W e w' := ⟨PT.imp h.pt fun σ H Q ⟨F, β, ρ, μ, Qd, Ed, s, l, q, o, h⟩ => ⟨F, β, ρ, μ, Qd, Ed, s, l, q, o, f _ _ _ _ h⟩⟩
theorem ZA.imp {w w' : WAr} (h : ZA X W es w) (f : ∀ ρ μ Q E, w' ρ μ Q E → w ρ μ Q E) : ZA X W es w' := ⟨PA.imp h.pa fun σ H Q ⟨F, β, ρ, μ, Qd, Ed, s, l, q, o, h⟩ => ⟨F, β, ρ, μ, Qd, Ed, s, l, q, o, f _ _ _ _ h⟩⟩
theorem ZS.imp {st : Stmt} {w w' : WSt} (h : ZS X W st w) (f : ∀ G ρ μ, w' G ρ μ → w G ρ μ) : ZS X W st w' := ⟨PS.imp h.ps fun D σ H ⟨F, β, ρ, μ, G, s, l, q, h⟩ => ⟨F, β, ρ, μ, G, s, l, q, f _ _ _ h⟩⟩
theorem ZSs.imp {st : List Stmt} {w w' : WSt} (h : ZSs X W st w) (f : ∀ G ρ μ, w' G ρ μ → w G ρ μ) : ZSs X W st w' := ⟨PSs.imp h.pss fun D σ H ⟨F, β, ρ, μ, G, s, l, q, h⟩ => ⟨F, β, ρ, μ, G, s, l, q, f _ _ _ h⟩⟩
/-- a tree as value; a thing that is seen as a tree -/
structure GE (X : Cx) (W : WX) (e : Expr) (g : Gx) : Prop where
  z : ZE X W e (wP g)
structure GV (X : Cx) (W : WX) (e : Expr) (g : Gx) : Prop where
  z : ZE X W e (wV g)
structure GT (X : Cx) (W : WX) (e : Expr) (g : Gb) : Prop where
  z : ZT X W e (wPT g)
structure GA (X : Cx) (W : WX) (es : List Expr) (g : Ga) : Prop where
  z : ZA X W es (wPA g)
structure GVA (X : Cx) (W : WX) (es : List Expr) (g : Ga) : Prop where
  z : ZA X W es (wVA g)
theorem GE.v (h : GE X W e g) : GV X W e g := ⟨h.z.imp fun ρ μ Q E q => Pr.run_mono q (fun t h => h (.t t) rfl) fun _ h => h⟩
def gVar (i : Nat) : Gx := fun ρ μ => Pr.of (match ρ[i]? with
  | some (some d) => vw μ d
  | _ => none)
def gVarT (i : Nat) : Gx := fun ρ μ => match ρ[i]? with
  | some (some (.t t)) => .ok t
  | _ => .bad
theorem ge_c {t : T} (h : ZE X W e (wC t)) : GE X W e fun _ _ => .ok t := ⟨h.imp fun ρ μ Q E q => q⟩
theorem gv_var (i : Nat) {x : Str} (hN : X.N[i]? = some x := by rfl) (hv : Vis X.env.scope x := by first | exact Or.inl rfl | exact Or.inr (Or.inl rfl) | exact Or.inr (Or.inr rfl)) (hd : (x == ("__debug__" : Str)) = false := by decide)
    (hcd : (x == ("__classdict__" : Str)) = false := by decide) : GV X W (.Name x pos) (gVar i) :=
  ⟨(ze_var i hN hv hd hcd).imp fun ρ μ Q E q => by
    obtain ⟨t, h1, h2⟩ := Pr.run_of q
    cases h : ρ[i]? with
    | none => rw [h] at h1; cases h1
    | some o =>
      cases o with
      | none => rw [h] at h1; cases h1
      | some d => rw [h] at h1; exact ⟨d, h, h2 d h1⟩⟩
theorem ge_var (i : Nat) {x : Str} (hN : X.N[i]? = some x := by rfl) (hv : Vis X.env.scope x := by first | exact Or.inl rfl | exact Or.inr (Or.inl rfl) | exact Or.inr (Or.inr rfl)) (hd : (x == ("__debug__" : Str)) = false := by decide)
    (hcd : (x == ("__classdict__" : Str)) = false := by decide) : GE X W (.Name x pos) (gVarT i) :=
  ⟨(ze_var i hN hv hd hcd).imp fun ρ μ Q E q => by
    have q' : (match ρ[i]? with | some (some (.t t)) => Pr.ok t | _ => .bad).run (fun t => Q (.t t) μ) (fun e => E e μ) := q
    cases h : ρ[i]? with
    | none => rw [h] at q'; exact q'.elim
    | some o =>
      rw [h] at q'
      cases o with
      | none => exact q'.elim
      | some d =>
        cases d with
        | t t => exact ⟨.t t, h, q'⟩
        | r j => exact q'.elim⟩
/-! ### operations -/
abbrev O1 := T → Option T
abbrev O2 := T → T → Option T
abbrev ON := List T → Option T
def fo1 (f : O1) : F1 := fun t Q => ∃ r, f t = some r ∧ Q r
def fo2 (f : O2) : F2' := fun t u Q => ∃ r, f t u = some r ∧ Q r
def foN (f : ON) : FN := fun ts Q => ∃ r, f ts = some r ∧ Q r
def g1 (f : O1) (ga : Gx) : Gx := fun ρ μ => (ga ρ μ).bind fun x => .of (f x)
def g2 (f : O2) (ga gb : Gx) : Gx := fun ρ μ => (ga ρ μ).bind fun x => (gb ρ μ).bind fun y => .of (f x y)
def gN (f : ON) (ga : Ga) : Gx := fun ρ μ => (ga ρ μ).bind fun x => .of (f x)
theorem ge_un {op : UnaryOp} {r : V → Hp → VK → Prop} {f : O1} (ho : UnR X (unaryOp op) r) (hz : Z1 X.K r (fo1 f)) (ha : GV X W a ga) : GE X W (.UnaryOp op a pos) (g1 f ga) :=
  ⟨(ze_un ho hz ha.z).imp fun ρ μ Q E q => Pr.run_mono (Pr.run_bind q) (fun t h d hd => by obtain ⟨r, h1, h2⟩ := Pr.run_of h; exact ⟨t, hd, r, h1, h2⟩) fun _ h => h⟩
theorem op2_imp {f : O2} {ρ : En} {μ : Mu} {Q : D → Mu → Prop} {E : EK} (q : wP (g2 f ga gb) ρ μ Q E) : wOp2 (fo2 f) (wV ga) (wV gb) ρ μ Q E :=
  Pr.run_mono (Pr.run_bind q) (fun t h d hd => Pr.run_mono (Pr.run_bind h) (fun u h d' hd' => by obtain ⟨r, h1, h2⟩ := Pr.run_of h; exact ⟨t, u, hd, hd', r, h1, h2⟩) fun _ h => h) fun _ h => h
theorem ge_op {op : Operator} {r : R2} {f : O2} (ho : OpR X (binaryOp op) r) (hz : Z2 X.K r (fo2 f)) (ha : GV X W a ga) (hb : GV X W b gb) : GE X W (.BinOp a op b pos) (g2 f ga gb) := ⟨(ze_op ho hz ha.z hb.z).imp fun ρ μ Q E q => op2_imp q⟩
theorem ge_cmp {op : CmpOp} {r : R2} {f : O2} (ho : OpR X (compareOp op) r) (hz : Z2 X.K r (fo2 f)) (ha : GV X W a ga) (hb : GV X W b gb) (hm : behindInMarks op b = false := by rfl) : GE X W (.Compare a [op] [b] pos) (g2 f ga gb) := ⟨(ze_cmp ho hz ha.z hb.z hm).imp fun ρ μ Q E q => op2_imp q⟩
theorem ge_ix {r : R2} {f : O2} (hr : IxR X r) (hz : Z2 X.K r (fo2 f)) (ha : GV X W a ga) (hb : GV X W b gb) (hs : PlainIx b := by exact fun _ _ => rfl) : GE X W (.Subscript a b pos) (g2 f ga gb) := ⟨(ze_ix hr hz ha.z hb.z hs).imp fun ρ μ Q E q => op2_imp q⟩
/-! ### arguments -/
def gNil : Ga := fun _ _ => .ok []
def gCons (ga : Gx) (gs : Ga) : Ga := fun ρ μ => (ga ρ μ).bind fun x => (gs ρ μ).bind fun l => .ok (x :: l)
theorem ga_nil : GA X W [] gNil := ⟨za_nil.imp fun ρ μ Q E q => q⟩
theorem ga_cons (ha : GE X W e g) (hr : GA X W es gs) (hs : starEach (e :: es) X.env = (false, eval e X.env) :: starEach es X.env := by rfl) : GA X W (e :: es) (gCons g gs) :=
  ⟨(za_cons ha.z hr.z hs).imp fun ρ μ Q E q => Pr.run_mono (Pr.run_bind q) (fun t h => Pr.run_mono (Pr.run_bind h) (fun l h => h) fun _ h => h) fun _ h => h⟩
theorem gva_nil : GVA X W [] gNil := ⟨za_nil.imp fun ρ μ Q E q => q [] rfl⟩
theorem gva_cons (ha : GV X W e g) (hr : GVA X W es gs) (hs : starEach (e :: es) X.env = (false, eval e X.env) :: starEach es X.env := by rfl) : GVA X W (e :: es) (gCons g gs) :=
  ⟨(za_cons ha.z hr.z hs).imp fun ρ μ Q E q => Pr.run_mono (Pr.run_bind q) (fun t h d hd => Pr.run_mono (Pr.run_bind h) (fun l h ds hds => h (d :: ds) (by unfold vws; rw [hd]; show (vws μ ds).map (t :: ·) = _; rw [hds]; rfl)) fun _ h => h) fun _ h => h⟩
theorem vws_of (μ : Mu) : ∀ l : List T, vws μ (l.map .t) = some l
  | [] => rfl
  | t :: l => by
    show (vw μ (.t t)).bind (fun t => (vws μ (l.map .t)).map (t :: ·)) = _
    rw [vws_of μ l]; rfl
theorem GA.v (h : GA X W es gs) : GVA X W es gs := ⟨h.z.imp fun ρ μ Q E q => Pr.run_mono q (fun ts h => h _ (vws_of μ ts)) fun _ h => h⟩
theorem ge_callB {x : Str} {id : String} {r : List V → Hp → VK → Prop} {f : ON} (hc : CallR X (.builtin id) r) (hz : ZN X.K r (foN f)) (hm : X.mg x = none) (hv : bootBuiltins x = some (.builtin id)) (ha : GVA X W (e :: es) gs) (hg : Gl X x := by rfl) (hn : x ≠ "__name__" := by decide) (hdb : (x == ("__debug__" : Str)) = false := by decide)
    (he : starEach (e :: es) X.env = (false, eval e X.env) :: starEach es X.env := by rfl) (hpl : (backTo pos (starEach es X.env)).any (·.1) = false := by rfl) : GE X W (.Call (.Name x p) (e :: es) [] pos) (gN f gs) :=
  ⟨(ze_callB hc hz hm hv ha.z hg hn hdb he hpl).imp fun ρ μ Q E q => Pr.run_mono (Pr.run_bind q) (fun ts h ds hd => by obtain ⟨r, h1, h2⟩ := Pr.run_of h; exact ⟨ts, hd, r, h1, h2⟩) fun _ h => h⟩
theorem ge_callTy {x : Str} {T' : String} {r : List V → Hp → VK → Prop} {f : ON} (hc : CallR X (.type T') r) (hz : ZN X.K r (foN f)) (hm : X.mg x = none) (hv : bootBuiltins x = some (.type T')) (ha : GVA X W (e :: es) gs) (hg : Gl X x := by rfl) (hn : x ≠ "__name__" := by decide) (hdb : (x == ("__debug__" : Str)) = false := by decide)
    (he : starEach (e :: es) X.env = (false, eval e X.env) :: starEach es X.env := by rfl) (hpl : (backTo pos (starEach es X.env)).any (·.1) = false := by rfl) : GE X W (.Call (.Name x p) (e :: es) [] pos) (gN f gs) :=
  ⟨(ze_callTy hc hz hm hv ha.z hg hn hdb he hpl).imp fun ρ μ Q E q => Pr.run_mono (Pr.run_bind q) (fun ts h ds hd => by obtain ⟨r, h1, h2⟩ := Pr.run_of h; exact ⟨ts, hd, r, h1, h2⟩) fun _ h => h⟩
/-! ### displays -/
def szL (l : List T) : Option (List T) := if l.length ≤ sizeLine then some l else none
theorem szL_ok {l m : List T} (h : szL l = some m) : m = l ∧ l.length ≤ sizeLine := by
  unfold szL at h
  by_cases z : l.length ≤ sizeLine
  · rw [if_pos z] at h; cases h; exact ⟨rfl, z⟩
  · rw [if_neg z] at h; cases h
def gLst (gs : Ga) : Gx := fun ρ μ => (gs ρ μ).bind fun l => .of ((szL l).map .lst)
def gTup (gs : Ga) : Gx := fun ρ μ => (gs ρ μ).bind fun l => .of ((szL l).map .tup)
theorem ge_lst (ha : GA X W es gs) : GE X W (.List es pos) (gLst gs) :=
  ⟨(ze_lst ha.z).imp fun ρ μ Q E q => Pr.run_mono (Pr.run_bind q) (fun l h => by
    obtain ⟨r, h1, h2⟩ := Pr.run_of h
    obtain ⟨m, h3, rfl⟩ := map_some h1
    obtain ⟨rfl, z⟩ := szL_ok h3
    exact ⟨by simpa using z, .inl ⟨m, unT_of m, h2⟩⟩) fun _ h => h⟩
theorem ge_tup {x1} (ha : GA X W es gs) : GE X W (.Tuple es x1 pos) (gTup gs) :=
  ⟨(ze_tup ha.z).imp fun ρ μ Q E q => Pr.run_mono (Pr.run_bind q) (fun l h => by
    obtain ⟨r, h1, h2⟩ := Pr.run_of h
    obtain ⟨m, h3, rfl⟩ := map_some h1
    obtain ⟨rfl, z⟩ := szL_ok h3
    exact ⟨by simpa using z, .inl ⟨m, unT_of m, h2⟩⟩) fun _ h => h⟩
/-! ### truth, tests -/
def gTru (ga : Gx) : Gb := fun ρ μ => (ga ρ μ).bind fun t => .of (truT t)
theorem gt_tru (ha : GV X W e ga) (he : ∀ whole, isTrue e X.env whole = (do let v ← whole; standAt e.pos; holding [v] (truthy v)) := by intro _; rfl) : GT X W e (gTru ga) :=
  ⟨(zt_tru ha.z he).imp fun ρ μ Q E q => Pr.run_mono (Pr.run_bind q) (fun t h d hd => by obtain ⟨r, h1, h2⟩ := Pr.run_of h; exact ⟨t, r, hd, h1, h2⟩) fun _ h => h⟩
def blT : T → Option Bool
  | .bl b => some b
  | _ => none
def gBl (ga : Gx) : Gb := fun ρ μ => (ga ρ μ).bind fun t => .of (blT t)
theorem blT_ok {t : T} {b : Bool} (h : blT t = some b) : t = .bl b := by cases t <;> first | (cases h; rfl) | exact nomatch h
theorem gt_cmp {op : CmpOp} {r : R2} {f : O2} (ho : OpR X (compareOp op) r) (hz : Z2 X.K r (fo2 f)) (ha : GV X W a ga) (hb : GV X W b gb) (hm : behindInMarks op b = false := by rfl) : GT X W (.Compare a [op] [b] pos) (gBl (g2 f ga gb)) :=
  ⟨(zt_cmp ho hz ha.z hb.z hm).imp fun ρ μ Q E q => op2_imp (Q := fun d μ1 => ∃ k, d = .t (.bl k) ∧ Q k μ1) (Pr.run_mono (Pr.run_bind q) (fun t h => by obtain ⟨r, h1, h2⟩ := Pr.run_of h; exact ⟨r, by rw [blT_ok h1], h2⟩) fun _ h => h)⟩
def gAndT (ga gb : Gb) : Gb := fun ρ μ => (ga ρ μ).bind fun k => if k = true then gb ρ μ else .ok false
def gOrT (ga gb : Gb) : Gb := fun ρ μ => (ga ρ μ).bind fun k => if k = true then .ok true else gb ρ μ
def gNotT (ga : Gb) : Gb := fun ρ μ => (ga ρ μ).bind fun k => .ok (!k)
structure GW (X : Cx) (W : WX) (e : Expr) (g : Gb) : Prop where
  z : ZW X W e (wPT g)
theorem ZW.imp {w w' : WTs} (h : ZW X W e w) (f : ∀ ρ μ Q E, w' ρ μ Q E → w ρ μ Q E) : ZW X W e w' := ⟨PW.imp h.pw fun σ H Q ⟨F, β, ρ, μ, Qd, Ed, s, l, q, o, h⟩ => ⟨F, β, ρ, μ, Qd, Ed, s, l, q, o, f _ _ _ _ h⟩⟩
section
variable {gp gq : Gb} {rest : List Expr}
theorem GW.t (h : GW X W e gp) : GT X W e gp := ⟨h.z.zt⟩
theorem gw_and1 (ha : GT X W a gp) : GW X W (.BoolOp .And [a] pos) gp := ⟨zw_and1 ha.z⟩
theorem gw_or1 (ha : GT X W a gp) : GW X W (.BoolOp .Or [a] pos) gp := ⟨zw_or1 ha.z⟩
theorem gw_and (ha : GT X W a gp) (hb : GW X W (.BoolOp .And (b :: rest) pos) gq) : GW X W (.BoolOp .And (a :: b :: rest) pos) (gAndT gp gq) :=
  ⟨(zw_and ha.z hb.z).imp fun ρ μ Q E q => Pr.run_mono (Pr.run_bind q) (fun k h => by cases k <;> exact h) fun _ h => h⟩
theorem gw_or (ha : GT X W a gp) (hb : GW X W (.BoolOp .Or (b :: rest) pos) gq) : GW X W (.BoolOp .Or (a :: b :: rest) pos) (gOrT gp gq) :=
  ⟨(zw_or ha.z hb.z).imp fun ρ μ Q E q => Pr.run_mono (Pr.run_bind q) (fun k h => by cases k <;> exact h) fun _ h => h⟩
theorem gt_not (ha : GT X W a gp) : GT X W (.UnaryOp .Not a pos) (gNotT gp) := ⟨(zt_not ha.z).imp fun ρ μ Q E q => Pr.run_mono (Pr.run_bind q) (fun k h => h) fun _ h => h⟩
def gIf (gc : Gb) (ga gb : Gx) : Gx := fun ρ μ => (gc ρ μ).bind fun k => if k = true then ga ρ μ else gb ρ μ
theorem ge_ifExp (hc : GT X W c gp) (ha : GE X W a ga) (hb : GE X W b gb) : GE X W (.IfExp c a b pos) (gIf gp ga gb) :=
  ⟨(ze_ifExp hc.z ha.z hb.z).imp fun ρ μ Q E q => Pr.run_mono (Pr.run_bind q) (fun k h => by cases k <;> exact h) fun _ h => h⟩
def gAndV (ga gb : Gx) : Gx := fun ρ μ => (ga ρ μ).bind fun t => (Pr.of (truT t)).bind fun k => if k = true then gb ρ μ else .ok t
def gOrV (ga gb : Gx) : Gx := fun ρ μ => (ga ρ μ).bind fun t => (Pr.of (truT t)).bind fun k => if k = true then .ok t else gb ρ μ
def gNotV (ga : Gx) : Gx := fun ρ μ => (ga ρ μ).bind fun t => (Pr.of (truT t)).bind fun k => .ok (.bl !k)
theorem ge_one {op} (h : GE X W a ga) : GE X W (.BoolOp op [a] pos) ga := ⟨ze_one h.z⟩
theorem ge_and (ha : GE X W a ga) (hb : GE X W (.BoolOp .And (b :: rest) pos) gb) : GE X W (.BoolOp .And (a :: b :: rest) pos) (gAndV ga gb) :=
  ⟨(ze_and ha.z hb.z).imp fun ρ μ Q E q => Pr.run_mono (Pr.run_bind q) (fun t h => by obtain ⟨k, h1, h2⟩ := Pr.run_of (Pr.run_bind h); exact ⟨t, k, rfl, h1, by cases k <;> exact h2⟩) fun _ h => h⟩
theorem ge_or (ha : GE X W a ga) (hb : GE X W (.BoolOp .Or (b :: rest) pos) gb) : GE X W (.BoolOp .Or (a :: b :: rest) pos) (gOrV ga gb) :=
  ⟨(ze_or ha.z hb.z).imp fun ρ μ Q E q => Pr.run_mono (Pr.run_bind q) (fun t h => by obtain ⟨k, h1, h2⟩ := Pr.run_of (Pr.run_bind h); exact ⟨t, k, rfl, h1, by cases k <;> exact h2⟩) fun _ h => h⟩
theorem ge_not (ha : GV X W a ga) : GE X W (.UnaryOp .Not a pos) (gNotV ga) :=
  ⟨(ze_not ha.z).imp fun ρ μ Q E q => Pr.run_mono (Pr.run_bind q) (fun t h d hd => by obtain ⟨k, h1, h2⟩ := Pr.run_of (Pr.run_bind h); exact ⟨t, k, hd, h1, h2⟩) fun _ h => h⟩
end
/-! ### calls of pure defs -/
def GLen (n : Nat) (gs : Ga) : Prop := ∀ ρ μ l, gs ρ μ = .ok l → l.length = n
theorem glen_nil : GLen 0 gNil := fun ρ μ l h => by cases h; rfl
theorem Pr.bind_ok {α β : Type} {x : Pr α} {f : α → Pr β} {b : β} (h : x.bind f = .ok b) : ∃ a, x = .ok a ∧ f a = .ok b := by
  cases x with
  | bad => cases h
  | er e => cases h
  | ok a => exact ⟨a, rfl, h⟩
theorem glen_cons {n : Nat} {g : Gx} {gs : Ga} (h : GLen n gs) : GLen (n + 1) (gCons g gs) := fun ρ μ l e => by
  obtain ⟨x, h1, h2⟩ := Pr.bind_ok e
  obtain ⟨r, h3, h4⟩ := Pr.bind_ok h2
  cases h4
  simp [h ρ μ r h3]
/-- a pure def: a function on trees -/
def purE (f : List T → Pr T) : WFn := fun ds μ Q E => μ = [] ∧ ∃ ts, ds = ts.map .t ∧ (f ts).run (fun r => ∀ g, Q (.t r) g) fun e => ∀ g, E e g
def gCall (f : List T → Pr T) (dts : List T) (gs : Ga) : Gx := fun ρ μ => (gs ρ μ).bind fun l => f (l ++ dts)
theorem refs_t (l : List T) : refs (l.map .t) = [] := by
  unfold refs
  have : (l.map D.t).filterMap rOf = [] := by
    induction l with
    | nil => rfl
    | cons t l ih => simpa [rOf] using ih
  rw [this]; rfl
theorem ge_call {f : List T → Pr T} {dts : List T} {dvs : List V} {dsv : List Value} {k : Nat} {fa : Addr} {fd : FuncData} {ps : List Str} {x : Str} {n : Nat}
    (Fo : FnOk X.prog X.w X.K X.mg X.base (L2.CX X.prog X.w) k fa fd ps (spZ X.K ps.length (purE f))) (hr : Room k X.A) (hm : X.mg x = some (.ref fa)) (hk : PySem.W.keepIn X.K (.ref fa) = true) (hb : Binds X.K fd ps dsv) (hd : Vals dvs dsv) (hdt : ∀ F H, RepL X.K F H dts dvs) (tk : Takes X W)
    (hl : GLen n gs) (ha : GA X W (e :: es) gs) (hn : n + dts.length = ps.length := by rfl) (hg : Gl X x := by rfl) (hdb : (x == ("__debug__" : Str)) = false := by decide)
    (he : starEach (e :: es) X.env = (false, eval e X.env) :: starEach es X.env := by rfl) (hpl : (backTo pos (starEach es X.env)).any (·.1) = false := by rfl) :
    GE X W (.Call (.Name x p) (e :: es) [] pos) (gCall f dts gs) :=
  ⟨(ze_callX Fo hr hm hk hb hd hdt tk ha.z hg hdb he hpl).imp fun ρ μ Q E q => by
    have q' : ((gs ρ μ).bind fun l => f (l ++ dts)).run (fun t => Q (.t t) μ) (fun e => E e μ) := q
    unfold wCallX wPA
    cases h : gs ρ μ with
    | bad => rw [h] at q'; exact q'
    | er e => rw [h] at q'; exact q'
    | ok l =>
      rw [h] at q'
      refine ⟨by rw [List.length_map, hl ρ μ l h]; exact hn, .inl ⟨[], by rw [refs_t]; rfl, rfl, l ++ dts, ?_, ?_⟩⟩
      · rw [refs_t, List.map_append, List.map_map]; congr 1
      · rw [refs_t]
        exact Pr.run_mono q' (fun r h g => .inl ⟨Nat.zero_le _, rfl, .inl ⟨r, rfl, h⟩⟩) fun e h g => ⟨Nat.zero_le _, rfl, h⟩⟩
end
end Zy
set_option Elab.async false
set_option linter.all false
set_option maxRecDepth 100000
set_option maxHeartbeats 400000
/-! ZI: pure walks, comprehensions, statements, defs. -/
namespace Zy
open PySem PySem.Spec PyProof.Rows L2
section
variable {X : Cx} {W : WX} {e a b c tg iter elt : Expr} {es ifs : List Expr} {pos p p2 : Pos} {g ga gb : Gx} {gs : Ga}
/-! ### what is walked -/
def wPI (g : Ga) : WIt := fun ρ μ Q E => (g ρ μ).run (fun ts => ∀ chk : Mu → Prop, chk μ → Q (ts.map .t) chk μ) fun e => E e μ
structure GI (X : Cx) (W : WX) (tg iter : Expr) (g : Ga) : Prop where
  z : ZI X W tg iter (wPI g)
theorem ZI.imp {w w' : WIt} (h : ZI X W tg iter w) (f : ∀ ρ μ Q E, w' ρ μ Q E → w ρ μ Q E) : ZI X W tg iter w' := ⟨PI.imp h.pi fun σ H R ⟨F, β, ρ, μ, Qi, Ed, s, l, q, o, h⟩ => ⟨F, β, ρ, μ, Qi, Ed, s, l, q, o, f _ _ _ _ h⟩⟩
def itmT : T → Option (List T)
  | .lst l => some l
  | .scr l => some l
  | .tup l => some l
  | .str x => some (x.cps.toList.map sign)
  | _ => none
theorem itmT_itm {t : T} {l : List T} (h : itmT t = some l) (μ : Mu) : Itm μ (.t t) (l.map .t) fun _ => True := by
  cases t with
  | lst m => cases h; exact ⟨rfl, rfl⟩
  | scr m => cases h; exact ⟨rfl, rfl⟩
  | tup m => cases h; exact ⟨rfl, rfl⟩
  | str x => cases h; exact ⟨by simp, rfl⟩
  | _ => cases h
theorem itmT_vw {μ : Mu} {d : D} {t : T} {l : List T} (hv : vw μ d = some t) (h : itmT t = some l) : ∃ chk : Mu → Prop, ItmS μ d (l.map .t) chk ∧ chk μ := by
  cases d with
  | t x => cases hv; exact ⟨_, .inl (itmT_itm h μ), trivial⟩
  | r i =>
    have hv' : (μ[i]?).bind vwM = some t := hv
    cases em : μ[i]? with
    | none => rw [em] at hv'; cases hv'
    | some m =>
      rw [em] at hv'
      have hv2 : vwM m = some t := hv'
      cases m with
      | lst ds =>
        obtain ⟨m, eu, rfl⟩ := map_some (show (unT ds).map T.lst = some t from hv2)
        cases h
        have := unT_map eu
        subst this
        exact ⟨_, .inr ⟨i, rfl, em, rfl⟩, em⟩
      | tup ds =>
        obtain ⟨m, eu, rfl⟩ := map_some (show (unT ds).map T.tup = some t from hv2)
        cases h
        have := unT_map eu
        subst this
        exact ⟨_, .inl ⟨em, rfl⟩, trivial⟩
      | dk ks ds => obtain ⟨m, eu, rfl⟩ := map_some (show (unT ds).map (T.dk ks) = some t from hv2); cases h
      | dt ks ds => obtain ⟨m, eu, rfl⟩ := map_some (show (unT ds).map (T.dt ks) = some t from hv2); cases h
      | ins C ns ds => obtain ⟨m, eu, rfl⟩ := map_some (show (unT ds).map (T.ins C ns) = some t from hv2); cases h
      | dead => exact nomatch (show (none : Option T) = some t from hv2)
def giSeq (g : Gx) : Ga := fun ρ μ => (g ρ μ).bind fun t => .of (itmT t)
theorem gi_seq (he : GV X W e g) : GI X W tg e (giSeq g) :=
  ⟨(zi_seq he.z).imp fun ρ μ Q E q => Pr.run_mono (Pr.run_bind q) (fun t h d hd => by
    obtain ⟨l, h1, h2⟩ := Pr.run_of h
    obtain ⟨chk, h3, h4⟩ := itmT_vw hd h1
    exact ⟨_, chk, h3, h2 chk h4⟩) fun _ h => h⟩
def ints1 : List T → Option (List T)
  | [.int j] => if j < 2 ^ 62 ∧ -(2 ^ 62) ≤ j then some ((List.range j.toNat).map fun i => .int (i : Nat)) else none
  | _ => none
def ints2 : List T → Option (List T)
  | [.int i, .int j] => if -(2 ^ 62) ≤ i ∧ i < 2 ^ 62 ∧ -(2 ^ 62) ≤ j ∧ j < 2 ^ 62 then some ((List.range (j - i).toNat).map fun k => .int (i + (k : Nat))) else none
  | _ => none
def giO (f : List T → Option (List T)) (gs : Ga) : Ga := fun ρ μ => (gs ρ μ).bind fun l => .of (f l)
theorem gi_rg1 (hm : X.mg "range" = none) (ha : GA X W [a] gs) (hg : Gl X "range" := by rfl) (hs : starEach [a] X.env = [(false, eval a X.env)] := by rfl) : GI X W tg (.Call (.Name "range" p) [a] [] pos) (giO ints1 gs) :=
  ⟨(zi_rg1 hm ha.z hg hs).imp fun ρ μ Q E q => Pr.run_mono (Pr.run_bind q) (fun l h => by
    obtain ⟨m, h1, h2⟩ := Pr.run_of h
    match l, h1 with
    | [.int j], h1 =>
      have h1' : (if j < 2 ^ 62 ∧ -(2 ^ 62) ≤ j then some ((List.range j.toNat).map fun i => T.int (i : Nat)) else none) = some m := h1
      by_cases z : j < 2 ^ 62 ∧ -(2 ^ 62) ≤ j
      · rw [if_pos z] at h1'; cases h1'
        refine ⟨j, rfl, z.1, z.2, ?_⟩
        have := h2 (fun _ => True) trivial
        rwa [List.map_map] at this
      · rw [if_neg z] at h1'; cases h1') fun _ h => h⟩
theorem gi_rg2 (hm : X.mg "range" = none) (ha : GA X W [a, b] gs) (hg : Gl X "range" := by rfl) (hs : starEach [a, b] X.env = [(false, eval a X.env), (false, eval b X.env)] := by rfl) (hs2 : starEach [b] X.env = [(false, eval b X.env)] := by rfl) : GI X W tg (.Call (.Name "range" p) [a, b] [] pos) (giO ints2 gs) :=
  ⟨(zi_rg2 hm ha.z hg hs hs2).imp fun ρ μ Q E q => Pr.run_mono (Pr.run_bind q) (fun l h => by
    obtain ⟨m, h1, h2⟩ := Pr.run_of h
    match l, h1 with
    | [.int i, .int j], h1 =>
      have h1' : (if -(2 ^ 62) ≤ i ∧ i < 2 ^ 62 ∧ -(2 ^ 62) ≤ j ∧ j < 2 ^ 62 then some ((List.range (j - i).toNat).map fun k => T.int (i + (k : Nat))) else none) = some m := h1
      by_cases z : -(2 ^ 62) ≤ i ∧ i < 2 ^ 62 ∧ -(2 ^ 62) ≤ j ∧ j < 2 ^ 62
      · rw [if_pos z] at h1'; cases h1'
        refine ⟨i, j, rfl, z, ?_⟩
        have := h2 (fun _ => True) trivial
        rwa [List.map_map] at this
      · rw [if_neg z] at h1'; cases h1') fun _ h => h⟩
/-- enumerate, zip -/
def enO : Nat → List T → List T
  | _, [] => []
  | i, x :: r => .tup [.int (i : Nat), x] :: enO (i + 1) r
def zpO : List T → List T → List T
  | x :: r, y :: q => .tup [x, y] :: zpO r q
  | _, _ => []
theorem enT_of : ∀ (k : Nat) (l : List T), enT k (l.map .t) = some ((enO k l).map .t)
  | k, [] => rfl
  | k, x :: l => by show (enT (k + 1) (l.map .t)).map _ = _; rw [enT_of (k + 1) l]; rfl
theorem zpT_of : ∀ (l m : List T), zpT (l.map .t) (m.map .t) = some ((zpO l m).map .t)
  | [], m => by cases m <;> rfl
  | x :: l, [] => rfl
  | x :: l, y :: m => by show (zpT (l.map .t) (m.map .t)).map _ = _; rw [zpT_of l m]; rfl
def enOp : List T → Option (List T)
  | [t] => (itmT t).map (enO 0)
  | _ => none
def zpOp : List T → Option (List T)
  | [t, u] => (itmT t).bind fun l => (itmT u).map fun m => zpO l m
  | _ => none
theorem gi_en {elts : List Expr} {kk : Nat} {tpos : Pos} (hm : X.mg "enumerate" = none) (ha : GA X W [a] gs) (hg : Gl X "enumerate" := by rfl) (hs : starEach [a] X.env = [(false, eval a X.env)] := by rfl) : GI X W (.Tuple elts kk tpos) (.Call (.Name "enumerate" p) [a] [] pos) (giO enOp gs) :=
  ⟨(zi_en hm ha.z hg hs).imp fun ρ μ Q E q => Pr.run_mono (Pr.run_bind q) (fun l h => by
    obtain ⟨m, h1, h2⟩ := Pr.run_of h
    match l, h1 with
    | [t], h1 =>
      obtain ⟨l, h3, rfl⟩ := map_some (show (itmT t).map (enO 0) = some m from h1)
      exact ⟨.t t, _, _, _, rfl, itmT_itm h3 μ, enT_of 0 l, h2 _ trivial⟩) fun _ h => h⟩
theorem gi_zp {elts : List Expr} {kk : Nat} {tpos : Pos} (hm : X.mg "zip" = none) (ha : GA X W [a, b] gs) (hg : Gl X "zip" := by rfl) (hs : starEach (a :: [b]) X.env = (false, eval a X.env) :: starEach [b] X.env := by rfl) (hpl : (backTo pos (starEach [b] X.env)).any (·.1) = false := by rfl) : GI X W (.Tuple elts kk tpos) (.Call (.Name "zip" p) [a, b] [] pos) (giO zpOp gs) :=
  ⟨(zi_zp hm ha.z hg hs hpl).imp fun ρ μ Q E q => Pr.run_mono (Pr.run_bind q) (fun l h => by
    obtain ⟨m, h1, h2⟩ := Pr.run_of h
    match l, h1 with
    | [t, u], h1 =>
      obtain ⟨l, h3, h4⟩ := bind_some (show (itmT t).bind (fun l => (itmT u).map fun m => zpO l m) = some m from h1)
      obtain ⟨r, h5, rfl⟩ := map_some h4
      exact ⟨.t t, .t u, _, _, _, _, _, rfl, itmT_itm h3 μ, itmT_itm h5 μ, zpT_of l r, h2 _ ⟨trivial, trivial⟩⟩) fun _ h => h⟩
/-! ### targets -/
abbrev Tg := T → En → Option En
abbrev Tgs := List T → En → Option En
def tgName (i : Nat) : Tg := fun t ρ => some (ρ.set i (some (.t t)))
def tgNil : Tgs := fun l ρ => match l with
  | [] => some ρ
  | _ => none
def tgCons (a : Tg) (b : Tgs) : Tgs := fun l ρ => match l with
  | x :: r => (a x ρ).bind (b r)
  | [] => none
def tgTup (n : Nat) (b : Tgs) : Tg := fun t ρ => match t with
  | .tup l => if l.length = n then b l ρ else none
  | _ => none
def wTgP (g : Tg) : WTg := fun d ρ μ Q => ∃ t ρ', d = .t t ∧ g t ρ = some ρ' ∧ Q ρ' μ
def wTgsP (g : Tgs) : WTgs := fun ds ρ μ Q => ∃ ts ρ', ds = ts.map .t ∧ g ts ρ = some ρ' ∧ Q ρ' μ
structure GC (X : Cx) (vs : List Nat) (tg : Expr) (g : Tg) : Prop where
  z : ZC X vs tg (wTgP g)
structure GCs (X : Cx) (vs : List Nat) (ts : List Expr) (g : Tgs) : Prop where
  z : ZCs X vs ts (wTgsP g)
structure GG (X : Cx) (tg : Expr) (g : Tg) : Prop where
  z : ZG X tg (wTgP g)
structure GGs (X : Cx) (ts : List Expr) (g : Tgs) : Prop where
  z : ZGs X ts (wTgsP g)
theorem ZC.imp {vs : List Nat} {w w' : WTg} (h : ZC X vs tg w) (f : ∀ d ρ μ Q, w' d ρ μ Q → w d ρ μ Q) : ZC X vs tg w' := ⟨PG.imp h.pg fun v σ H Q ⟨F, β, ρ, μ, d, Qd, s, l, r, q, h⟩ => ⟨F, β, ρ, μ, d, Qd, s, l, r, q, f _ _ _ _ h⟩⟩
theorem ZCs.imp {vs : List Nat} {ts : List Expr} {w w' : WTgs} (h : ZCs X vs ts w) (f : ∀ d ρ μ Q, w' d ρ μ Q → w d ρ μ Q) : ZCs X vs ts w' := ⟨PGs.imp h.pgs fun v σ H Q ⟨F, β, ρ, μ, d, Qd, s, l, r, q, h⟩ => ⟨F, β, ρ, μ, d, Qd, s, l, r, q, f _ _ _ _ h⟩⟩
theorem ZG.imp {w w' : WTg} (h : ZG X tg w) (f : ∀ d ρ μ Q, w' d ρ μ Q → w d ρ μ Q) : ZG X tg w' := ⟨PG.imp h.pg fun v σ H Q ⟨F, β, ρ, μ, d, Qd, s, l, r, q, h⟩ => ⟨F, β, ρ, μ, d, Qd, s, l, r, q, f _ _ _ _ h⟩⟩
theorem ZGs.imp {ts : List Expr} {w w' : WTgs} (h : ZGs X ts w) (f : ∀ d ρ μ Q, w' d ρ μ Q → w d ρ μ Q) : ZGs X ts w' := ⟨PGs.imp h.pgs fun v σ H Q ⟨F, β, ρ, μ, d, Qd, s, l, r, q, h⟩ => ⟨F, β, ρ, μ, d, Qd, s, l, r, q, f _ _ _ _ h⟩⟩
theorem wName_imp (i : Nat) {d : D} {ρ : En} {μ : Mu} {Q : En → Mu → Prop} (h : wTgP (tgName i) d ρ μ Q) : wgName i d ρ μ Q := by
  obtain ⟨t, ρ', rfl, h1, h2⟩ := h
  cases h1; exact h2
theorem wNil_imp {ds : List D} {ρ : En} {μ : Mu} {Q : En → Mu → Prop} (h : wTgsP tgNil ds ρ μ Q) : wgNil ds ρ μ Q := by
  obtain ⟨ts, ρ', rfl, h1, h2⟩ := h
  cases ts with
  | nil => cases h1; exact ⟨rfl, h2⟩
  | cons x r => cases h1
theorem wCons_imp {ta : Tg} {tb : Tgs} {ds : List D} {ρ : En} {μ : Mu} {Q : En → Mu → Prop} (h : wTgsP (tgCons ta tb) ds ρ μ Q) : wgCons (wTgP ta) (wTgsP tb) ds ρ μ Q := by
  obtain ⟨ts, ρ', rfl, h1, h2⟩ := h
  cases ts with
  | nil => cases h1
  | cons x r =>
    obtain ⟨ρ1, h3, h4⟩ := bind_some (show (ta x ρ).bind (tb r) = some ρ' from h1)
    exact ⟨.t x, r.map .t, rfl, x, ρ1, rfl, h3, r, ρ', rfl, h4, h2⟩
theorem wTup_imp {n : Nat} {tb : Tgs} {d : D} {ρ : En} {μ : Mu} {Q : En → Mu → Prop} (h : wTgP (tgTup n tb) d ρ μ Q) : wgTup n (wTgsP tb) d ρ μ Q := by
  obtain ⟨t, ρ', rfl, h1, h2⟩ := h
  cases t with
  | tup l =>
    have h1' : (if l.length = n then tb l ρ else none) = some ρ' := h1
    by_cases z : l.length = n
    · rw [if_pos z] at h1'; exact ⟨l.map .t, rfl, by simpa using z, l, ρ', rfl, h1', h2⟩
    · rw [if_neg z] at h1'; cases h1'
  | _ => cases h1
theorem gc_name (i : Nat) {vs : List Nat} {x : Str} (hN : X.N.Nodup) (hv : i ∈ vs := by decide) (hi : X.N[i]? = some x := by rfl) (hx : Loc X.env.scope x := by first | exact Or.inl rfl | exact Or.inr rfl) (hf : X.fn x = true ∨ X.env.scope.names.lookup x = some .local := by first | exact .inl rfl | exact .inr rfl | assumption) : GC X vs (.Name x pos) (tgName i) := ⟨(zc_name i hN hv hi hx hf).imp fun d ρ μ Q h => wName_imp i h⟩
theorem gcs_nil {vs : List Nat} : GCs X vs [] tgNil := ⟨zcs_nil.imp fun d ρ μ Q h => wNil_imp h⟩
theorem gcs_cons {vs : List Nat} {ta : Tg} {tb : Tgs} (h1 : GC X vs e ta) (h2 : GCs X vs es tb) (hs : (assignEach (e :: es) X.env).map (·.2) = assign e X.env :: (assignEach es X.env).map (·.2) := by rfl) : GCs X vs (e :: es) (tgCons ta tb) := ⟨(zcs_cons h1.z h2.z hs).imp fun d ρ μ Q h => wCons_imp h⟩
theorem gc_tup {vs : List Nat} {k n : Nat} {tb : Tgs} (hc : X.calm = true) (h : GCs X vs es tb) (hn : (assignEach es X.env).length = n := by rfl) (hst : (assignEach es X.env).findIdx? (·.1) = none := by rfl) : GC X vs (.Tuple es k pos) (tgTup n tb) := ⟨(zc_tup hc h.z hn hst).imp fun d ρ μ Q h => wTup_imp h⟩
theorem gg_name (i : Nat) {x : Str} (hN : X.N.Nodup) (hi : X.N[i]? = some x := by rfl) (hx : Loc X.env.scope x := by first | exact Or.inl rfl | exact Or.inr rfl) (hf : X.fn x = true ∨ X.env.scope.names.lookup x = some .local := by first | exact .inl rfl | exact .inr rfl | assumption) : GG X (.Name x pos) (tgName i) := ⟨(zg_name i hN hi hx hf).imp fun d ρ μ Q h => wName_imp i h⟩
theorem ggs_nil : GGs X [] tgNil := ⟨zgs_nil.imp fun d ρ μ Q h => wNil_imp h⟩
theorem ggs_cons {ta : Tg} {tb : Tgs} (h1 : GG X e ta) (h2 : GGs X es tb) (hs : (assignEach (e :: es) X.env).map (·.2) = assign e X.env :: (assignEach es X.env).map (·.2) := by rfl) : GGs X (e :: es) (tgCons ta tb) := ⟨(zgs_cons h1.z h2.z hs).imp fun d ρ μ Q h => wCons_imp h⟩
theorem gg_tup {k n : Nat} {tb : Tgs} (hc : X.calm = true) (h : GGs X es tb) (hn : (assignEach es X.env).length = n := by rfl) (hst : (assignEach es X.env).findIdx? (·.1) = none := by rfl) : GG X (.Tuple es k pos) (tgTup n tb) := ⟨(zg_tup hc h.z hn hst).imp fun d ρ μ Q h => wTup_imp h⟩
end
end Zy
set_option Elab.async false
set_option linter.all false
set_option maxRecDepth 100000
set_option maxHeartbeats 400000
/-! ZJ: pure comprehensions, statements, defs. -/
namespace Zy
open PySem PySem.Spec PyProof.Rows L2
/-! ### comprehensions -/
def Pr.only {α : Type} : Pr α → Pr α
  | .ok a => .ok a
  | _ => .bad
theorem Pr.run_only {α : Type} {x : Pr α} {Q : α → Prop} {E E' : Err → Prop} (h : x.only.run Q E) : x.run Q E' := by
  cases x with
  | bad => exact h
  | ok a => exact h
  | er e => exact (show False from h).elim
def compO (tg : Tg) (gt : Gb) (ge : Gx) (ρ : En) (μ : Mu) : List T → List T → Pr (List T)
  | [], acc => .ok acc
  | t :: r, acc => (Pr.of (tg t ρ)).bind fun ρ' => (gt ρ' μ).only.bind fun b => if b = true then (ge ρ' μ).only.bind fun y => compO tg gt ge ρ μ r (acc ++ [y]) else compO tg gt ge ρ μ r acc
def gLc (gi : Ga) (tg : Tg) (gt : Gb) (ge : Gx) (vs : List Nat) : Gx := fun ρ μ => (gi ρ μ).bind fun l => if l.length ≤ sizeLine then (compO tg gt ge (wipeE ρ vs) μ l []).bind fun r => .ok (.lst r) else .bad
def gYes : Gb := fun _ _ => .ok true
theorem comp_red {tg : Tg} {gt : Gb} {ge : Gx} {ρ : En} {μ : Mu} {chk : Mu → Prop} (hc : chk μ) {Q : List D → Mu → Prop} {E : Err → Prop} : ∀ {l acc : List T}, (compO tg gt ge ρ μ l acc).run (fun r => Q (r.map .t) μ) E → wComp chk (wTgP tg) (wPT gt) (wP ge) ρ Q (l.map .t) (acc.map .t) μ
  | [], acc, h => ⟨hc, h⟩
  | t :: r, acc, h => by
    obtain ⟨ρ', h1, h2⟩ := Pr.run_of (Pr.run_bind h)
    refine ⟨hc, t, ρ', rfl, h1, ?_⟩
    refine Pr.run_mono (Pr.run_only (E' := fun _ => False) (Pr.run_bind h2)) (fun b hb => ?_) fun _ h => h
    cases b with
    | true =>
      show (ge ρ' μ).run (fun t => wComp chk (wTgP tg) (wPT gt) (wP ge) ρ Q (r.map .t) (acc.map .t ++ [.t t]) μ) fun e => False
      refine Pr.run_mono (Pr.run_only (E' := fun _ => False) (Pr.run_bind hb)) (fun y hy => ?_) fun _ h => h
      have := comp_red hc hy
      rwa [List.map_append] at this
    | false => exact comp_red hc hb
section
variable {X : Cx} {W : WX} {e a b c tg iter elt : Expr} {es ifs : List Expr} {pos p p2 spos : Pos} {g ga gb : Gx} {gs gi : Ga} {tgf : Tg} {gt : Gb} {ge : Gx} {scope : Scope} {own : List (Str × Nat)}
structure GTs (X : Cx) (W : WX) (ifs : List Expr) (g : Gb) : Prop where
  z : ZTs X W ifs (wPT g)
theorem ZTs.imp {w w' : WTs} (h : ZTs X W ifs w) (f : ∀ ρ μ Q E, w' ρ μ Q E → w ρ μ Q E) : ZTs X W ifs w' := ⟨PTs.imp h.pts fun σ H Q ⟨F, β, ρ, μ, Qd, Ed, s, l, q, o, h⟩ => ⟨F, β, ρ, μ, Qd, Ed, s, l, q, o, f _ _ _ _ h⟩⟩
theorem gts_nil : GTs X W [] gYes := ⟨zts_nil.imp fun ρ μ Q E q => q⟩
theorem gts_one (h : GT X W e gt) : GTs X W [e] gt := ⟨zts_one h.z⟩
theorem lc_imp {vs : List Nat} {ρ : En} {μ : Mu} {Q : D → Mu → Prop} {E : EK} (h : wP (gLc gi tgf gt ge vs) ρ μ Q E) : wLc (wPI gi) (wTgP tgf) (wPT gt) (wP ge) vs ρ μ Q E :=
  Pr.run_mono (Pr.run_bind h) (fun l h chk hc => by
    by_cases z : l.length ≤ sizeLine
    · have h' : ((compO tgf gt ge (wipeE ρ vs) μ l []).bind fun r => .ok (.lst r)).run (fun t => Q (.t t) μ) (fun e => E e μ) := by
        have h2 : (if l.length ≤ sizeLine then (compO tgf gt ge (wipeE ρ vs) μ l []).bind fun r => Pr.ok (T.lst r) else .bad).run (fun t => Q (.t t) μ) (fun e => E e μ) := h
        rwa [if_pos z] at h2
      refine ⟨by simpa using z, comp_red (acc := []) hc (Pr.run_mono (Pr.run_bind h') (fun r hr => .inl ⟨r, unT_of r, hr⟩) fun _ h => h)⟩
    · have h2 : (if l.length ≤ sizeLine then (compO tgf gt ge (wipeE ρ vs) μ l []).bind fun r => Pr.ok (T.lst r) else .bad).run (fun t => Q (.t t) μ) (fun e => E e μ) := h
      rw [if_neg z] at h2; exact h2.elim) fun _ h => h
theorem ge_lc (hc : X.calm = true) (hN : X.N.Nodup) (ok : BlkOk X.N X.env.scope scope own) (hi : GI X W tg iter gi) (hg : InBlk X scope fun Y => GC Y (own.map (·.2)) tg tgf) (ht : InBlk X scope fun Y => GTs Y W0 ifs gt) (he : InBlk X scope fun Y => GE Y W0 elt ge)
    (hs : ∀ x, foldedSetIterable iter X.env x = pure x := by intro _; rfl) : GE X W (.ListComp elt [⟨tg, iter, ifs, 0⟩] scope pos) (gLc gi tgf gt ge (own.map (·.2))) :=
  ⟨(ze_lc hc hN ok hi.z (fun s H C cl fp => (hg s H C cl fp).z) (fun s H C cl fp => (ht s H C cl fp).z) (fun s H C cl fp => (he s H C cl fp).z) hs).imp fun ρ μ Q E q => lc_imp q⟩
/-! ### statements -/
inductive Ou where
  | nx (ρ : En) | rt (t : T) | bk (ρ : En) | ct (ρ : En) | er (e : Err) (ρ : En)
abbrev Gs := En → Mu → Option Ou
def Ou.run (G : Ez) (μ : Mu) : Option Ou → Prop
  | none => False
  | some (.nx ρ) => G.nx ρ μ
  | some (.rt t) => G.rt (.t t) μ
  | some (.bk ρ) => G.bk ρ μ
  | some (.ct ρ) => G.ct ρ μ
  | some (.er e ρ) => G.er e ρ μ
def wPS (g : Gs) : WSt := fun G ρ μ => Ou.run G μ (g ρ μ)
def lift {α : Type} (x : Pr α) (ρ : En) (k : α → Option Ou) : Option Ou := match x with
  | .bad => none
  | .ok a => k a
  | .er e => some (.er e ρ)
theorem lift_run {α : Type} {x : Pr α} {ρ : En} {k : α → Option Ou} {G : Ez} {μ : Mu} (h : Ou.run G μ (lift x ρ k)) : x.run (fun a => Ou.run G μ (k a)) fun e => G.er e ρ μ := by
  cases x <;> exact h
structure GS (X : Cx) (W : WX) (st : Stmt) (g : Gs) : Prop where
  z : ZS X W st (wPS g)
structure GSs (X : Cx) (W : WX) (st : List Stmt) (g : Gs) : Prop where
  z : ZSs X W st (wPS g)
def sNext : Gs := fun ρ _ => some (.nx ρ)
def sSeq (a b : Gs) : Gs := fun ρ μ => match a ρ μ with
  | some (.nx ρ') => b ρ' μ
  | o => o
def sRet (g : Gx) : Gs := fun ρ μ => lift (g ρ μ) ρ fun t => some (.rt t)
def sRetN : Gs := fun _ _ => some (.rt .non)
def sIf (gc : Gb) (a b : Gs) : Gs := fun ρ μ => lift (gc ρ μ) ρ fun k => if k = true then a ρ μ else b ρ μ
def sAsg (g : Gx) (tg : Tg) : Gs := fun ρ μ => lift (g ρ μ) ρ fun t => (tg t ρ).map .nx
def sBrk : Gs := fun ρ _ => some (.bk ρ)
def sCnt : Gs := fun ρ _ => some (.ct ρ)
def sNever : Gs := fun _ _ => none
def sDrop (g : Gx) : Gs := fun ρ μ => lift (g ρ μ) ρ fun _ => some (.nx ρ)
def sRaise (C : Addr) (f : Str) (g : Gx) : Gs := fun ρ μ => lift (g ρ μ) ρ fun t => some (.er (.own C [f] [t]) ρ)
section
variable {st : Stmt} {rest : List Stmt} {sa sb : Gs} {gc : Gb}
theorem gss_nil : GSs X W [] sNext := ⟨zss_nil.imp fun G ρ μ h => h⟩
theorem gss_one (h : GS X W st sa) : GSs X W [st] sa := ⟨zss_one h.z⟩
theorem gss_cons (h1 : GS X W st sa) (h2 : GSs X W rest sb) : GSs X W (st :: rest) (sSeq sa sb) :=
  ⟨(zss_cons h1.z h2.z).imp fun G ρ μ h => by
    have h' : Ou.run G μ (match sa ρ μ with | some (.nx ρ') => sb ρ' μ | o => o) := h
    show Ou.run { G with nx := wPS sb G } μ (sa ρ μ)
    cases e : sa ρ μ with
    | none => rw [e] at h'; exact h'
    | some o => rw [e] at h'; cases o <;> exact h'⟩
theorem gs_pass : GS X W (.Pass pos) sNext := ⟨zs_pass.imp fun G ρ μ h => h⟩
theorem gs_break : GS X W (.Break pos) sBrk := ⟨zs_break.imp fun G ρ μ h => h⟩
theorem gs_continue : GS X W (.Continue pos) sCnt := ⟨zs_continue.imp fun G ρ μ h => h⟩
theorem gss_never : GSs X W rest sNever := ⟨zss_never.imp fun G ρ μ h => h⟩
theorem gs_ret (he : GE X W e g) : GS X W (.Return (some e) pos) (sRet g) := ⟨(zs_ret he.z).imp fun G ρ μ h => Pr.run_mono (lift_run h) (fun t h => .inl h) fun _ h => h⟩
theorem gs_retN : GS X W (.Return none pos) sRetN := ⟨zs_retN.imp fun G ρ μ h => h⟩
theorem gs_if {A B : List Stmt} (hc : GT X W c gc) (ha : GSs X W A sa) (hb : GSs X W B sb) : GS X W (.If c A B pos) (sIf gc sa sb) :=
  ⟨(zs_if hc.z ha.z hb.z).imp fun G ρ μ h => Pr.run_mono (lift_run h) (fun k h => by cases k <;> exact h) fun _ h => h⟩
theorem gs_expr (he : GE X W e g) (hs : swapsWith e none pos.line X.env = pure false := by rfl) : GS X W (.Expr e pos) (sDrop g) := ⟨(zs_expr he.z hs).imp fun G ρ μ h => Pr.run_mono (lift_run h) (fun t h => h) fun _ h => h⟩
theorem opt_run {o : Option En} {G : Ez} {μ : Mu} (h : Ou.run G μ (o.map .nx)) : ∃ ρ', o = some ρ' ∧ G.nx ρ' μ := by
  cases o with
  | none => exact h.elim
  | some ρ' => exact ⟨ρ', rfl, h⟩
theorem gs_asg {tgf : Tg} (he : GE X W e g) (hg : GG X tg tgf) (hs : swapsWithSole [tg] e pos.line X.env = pure false := by rfl) (hw : swappedStores [tg] e X.env = pure none := by rfl)
    (h1 : (assignEach [tg] X.env).map (·.2) = [assign tg X.env] := by rfl) : GS X W (.Assign [tg] e pos) (sAsg g tgf) :=
  ⟨(zs_asg he.z hg.z hs hw h1).imp fun G ρ μ h => Pr.run_mono (lift_run h) (fun t h => by obtain ⟨ρ', h1, h2⟩ := opt_run h; exact ⟨t, ρ', rfl, h1, h2⟩) fun _ h => h⟩
theorem gs_set (i : Nat) {x : Str} {pos' : Pos} (hN : X.N.Nodup) (he : GE X W e g) (hi : X.N[i]? = some x := by rfl) (hx : Loc X.env.scope x := by first | exact Or.inl rfl | exact Or.inr rfl) (hs : swapsWith e (some (.Name x pos')) pos.line X.env = pure false := by rfl)
    (hf : X.fn x = true ∨ X.env.scope.names.lookup x = some .local := by first | exact .inl rfl | exact .inr rfl | assumption) : GS X W (.Assign [.Name x pos'] e pos) (sAsg g (tgName i)) :=
  ⟨(zs_set i hN he.z hi hx hs hf).imp fun G ρ μ h => Pr.run_mono (lift_run h) (fun t h => by obtain ⟨ρ', h1, h2⟩ := opt_run h; cases h1; exact h2) fun _ h => h⟩
theorem gs_setLc (i : Nat) {y : Str} {py : Pos} (hc : X.calm = true) (hN : X.N.Nodup) (ok : BlkOk X.N X.env.scope scope own) (hi : GI X W tg iter gi) (hg : InBlk X scope fun Y => GC Y (own.map (·.2)) tg tgf) (ht : InBlk X scope fun Y => GTs Y W0 ifs gt) (he : InBlk X scope fun Y => GE Y W0 elt ge)
    (hy : X.N[i]? = some y := by rfl) (hyl : X.env.scope.names.lookup y = some .local := by rfl)
    (hsw : swapsWith (.ListComp elt [⟨tg, iter, ifs, 0⟩] scope pos) (some (.Name y py)) spos.line X.env = pure true := by rfl)
    (hs : ∀ x, foldedSetIterable iter X.env x = pure x := by intro _; rfl) : GS X W (.Assign [.Name y py] (.ListComp elt [⟨tg, iter, ifs, 0⟩] scope pos) spos) (sAsg (gLc gi tgf gt ge (own.map (·.2))) (tgName i)) :=
  ⟨(zs_setLc i hc hN ok hi.z (fun s H C cl fp => (hg s H C cl fp).z) (fun s H C cl fp => (ht s H C cl fp).z) (fun s H C cl fp => (he s H C cl fp).z) hy hyl hsw hs).imp fun G ρ μ h =>
    lc_imp (Q := fun d μ' => wgName i d ρ μ' G.nx) (E := fun e μ' => G.er e ρ μ') (Pr.run_mono (lift_run h) (fun t h => by obtain ⟨ρ', h1, h2⟩ := opt_run h; cases h1; exact h2) fun _ h => h)⟩
/-- for -/
def forO (tg : Tg) (body : Gs) (μ : Mu) : List T → En → Option Ou
  | [], ρ => some (.nx ρ)
  | t :: r, ρ => match tg t ρ with
    | none => none
    | some ρ' => match body ρ' μ with
      | some (.nx ρ2) => forO tg body μ r ρ2
      | some (.ct ρ2) => forO tg body μ r ρ2
      | some (.bk ρ2) => some (.nx ρ2)
      | o => o
def sFor (gi : Ga) (tg : Tg) (body : Gs) : Gs := fun ρ μ => lift (gi ρ μ) ρ fun l => forO tg body μ l ρ
theorem loop_red {chk : Mu → Prop} {tgf : Tg} {G : Ez} {μ : Mu} (hc : chk μ) : ∀ {l : List T} {ρ : En}, Ou.run G μ (forO tgf sa μ l ρ) → wLoop chk (wTgP tgf) (wPS sa) G (l.map .t) ρ μ
  | [], ρ, h => ⟨hc, h⟩
  | t :: r, ρ, h => by
    have h' : Ou.run G μ (match tgf t ρ with | none => none | some ρ' => (match sa ρ' μ with | some (.nx ρ2) => forO tgf sa μ r ρ2 | some (.ct ρ2) => forO tgf sa μ r ρ2 | some (.bk ρ2) => some (.nx ρ2) | o => o)) := h
    cases e : tgf t ρ with
    | none => rw [e] at h'; exact h'.elim
    | some ρ' =>
      rw [e] at h'
      refine ⟨hc, t, ρ', rfl, e, ?_⟩
      show Ou.run _ μ (sa ρ' μ)
      have h2 : Ou.run G μ (match sa ρ' μ with | some (.nx ρ2) => forO tgf sa μ r ρ2 | some (.ct ρ2) => forO tgf sa μ r ρ2 | some (.bk ρ2) => some (.nx ρ2) | o => o) := h'
      cases e2 : sa ρ' μ with
      | none => rw [e2] at h2; exact h2
      | some o =>
        rw [e2] at h2
        cases o with
        | nx ρ2 => exact loop_red hc h2
        | ct ρ2 => exact loop_red hc h2
        | bk ρ2 => exact h2
        | rt t => exact h2
        | er e ρ2 => exact h2
theorem gs_for {tgf : Tg} {body : List Stmt} (hp : PassesOwn (model X.prog X.w) X.A X.env X.xe) (hc : X.calm = true) (hi : GI X W tg iter gi) (hg : GG X tg tgf) (hb : GSs X W body sa)
    (hs : ∀ x, foldedSetIterable iter X.env x = pure x := by intro _; rfl) : GS X W (.For tg iter body [] pos) (sFor gi tgf sa) :=
  ⟨(zs_for hp hc hi.z hg.z hb.z hs).imp fun G ρ μ h => Pr.run_mono (lift_run h) (fun l h chk hc => loop_red hc h) fun _ h => h⟩
theorem gs_raise {C fI : Addr} {f x : Str} {z : PySem.Sup.IPos} {pos2 : Pos} {k : Nat} (hc : X.calm = true) (T : OwnErr X.prog X.K X.mg x C fI f z) (hr : Room k X.A) (tk : Takes X W) (he : GE X W e g) (hg : Gl X x := by rfl) (hd : (x == ("__debug__" : Str)) = false := by decide)
    (hs : starEach (e :: []) X.env = (false, eval e X.env) :: starEach [] X.env := by rfl) (hpl : (backTo pos (starEach [] X.env)).any (·.1) = false := by rfl) : GS X W (.Raise (some (.Call (.Name x p) [e] [] pos)) none pos2) (sRaise C f g) :=
  ⟨(zs_raise hc T hr tk he.z hg hd hs hpl).imp fun G ρ μ h => Pr.run_mono (lift_run h) (fun t h => .inl ⟨t, rfl, h⟩) fun _ h => h⟩
end
end
/-! ### pure defs -/
def outP : Option Ou → Pr T
  | some (.nx _) => .ok .non
  | some (.rt t) => .ok t
  | some (.er e _) => .er e
  | _ => .bad
/-- what a body of n names is, called -/
def runB (n : Nat) (g : Gs) : List T → Pr T := fun ts => outP (g (ts.map (fun t => some (.t t)) ++ List.replicate (n - ts.length) none) [])
theorem out_run {o : Option Ou} {Q : D → Mu → Prop} {E : EK} (h : (outP o).run (fun r => ∀ g, Q (.t r) g) fun e => ∀ g, E e g) : Ou.run (ezF Q E) [] o := by
  cases o with
  | none => exact h
  | some o => cases o <;> first | exact h [] | exact h
section
variable {P : Program} {w : World} {K : PySem.W.Frag} {mg : Str → Option Value} {base : Heap}
/-- THE RULE for a pure def -/
theorem fun_pure {k : Nat} {name qual : Str} {params : Arguments} {body : List Stmt} {scope : Scope} {dvs : List V} {kws : List (Str × V)} {f : Addr} {fd : FuncData} {N ps : List Str} {g : Gs} (Fd : FunD K name qual params body scope dvs kws f fd) (S : FnScope N ps scope)
    (hb : ∀ (cdv : Value) (A : Around) (outer : List PySem.Env) (s : Shared) (H : Hp) (E : XK), Room k (A.deeper (envOfC qual scope s.heap.objs.size f cdv)) →
      GSs (cxOf (L2.CX P w) P w K mg base N qual scope f cdv A outer s H E) (fun c d _ H' => E c d H') body g) :
    FnOk P w K mg base (L2.CX P w) (k + 1) f fd ps (spZ K ps.length (purE (runB N.length g))) :=
  fun_spec Fd S (fun cdv A outer s H E hr => (hb cdv A outer s H E hr).z) fun ds μ Q E hl ⟨hμ, ts, e, h⟩ => by
    subst hμ e
    have := out_run h
    unfold wFun
    rw [List.map_map, List.length_map]
    exact this
end
end Zy
set_option Elab.async false
set_option linter.all false
set_option maxRecDepth 100000
set_option maxHeartbeats 400000
/-! ZK: operators and built-ins as functions on trees: one for each operator. -/
namespace Zy
open PySem PySem.Spec PyProof.Rows L2
section
variable {K : PySem.W.Frag}
theorem Z2.imp {r : R2} {f f' : F2'} (h : Z2 K r f) (q : ∀ t u Q, f' t u Q → f t u Q) : Z2 K r f' := fun F H t u v w Q Qd a b c d e => h F H t u v w Q Qd a b c (q t u Qd d) e
theorem Z2.or {r r' : R2} {f f' g : F2'} (h : Z2 K r f) (h' : Z2 K r' f') (q : ∀ t u Q, g t u Q → f t u Q ∨ f' t u Q) : Z2 K (fun x y H Q => r x y H Q ∨ r' x y H Q) g := fun F H t u v w Q Qd a b c d e =>
  (q t u Qd d).elim (fun z => .inl (h F H t u v w Q Qd a b c z e)) fun z => .inr (h' F H t u v w Q Qd a b c z e)
theorem ZN.imp {r : List V → Hp → VK → Prop} {f f' : FN} (h : ZN K r f) (q : ∀ t Q, f' t Q → f t Q) : ZN K r f' := fun F H t v Q Qd a b d e => h F H t v Q Qd a b (q t Qd d) e
def oI (C : TC) [∀ i j, Decidable (C i j)] (g : Int → Int → T) : O2 := fun t u => match t, u with
  | .int i, .int j => if C i j then some (g i j) else none
  | _, _ => none
theorem oI_ok {C : TC} [∀ i j, Decidable (C i j)] {g : Int → Int → T} {t u r : T} (h : oI C g t u = some r) : ∃ i j, t = .int i ∧ u = .int j ∧ C i j ∧ r = g i j := by
  cases t with
  | int i =>
    cases u with
    | int j =>
      have h' : (if C i j then some (g i j) else none) = some r := h
      by_cases c : C i j
      · rw [if_pos c] at h'; cases h'; exact ⟨i, j, rfl, rfl, c, rfl⟩
      · rw [if_neg c] at h'; cases h'
    | _ => cases h
  | _ => cases h
theorem fo_oI {C : TC} [∀ i j, Decidable (C i j)] {g : Int → Int → T} {t u : T} {Q : T → Prop} (h : fo2 (oI C g) t u Q) : fI2 C g t u Q := by
  obtain ⟨r, h1, h2⟩ := h
  obtain ⟨i, j, rfl, rfl, c, rfl⟩ := oI_ok h1
  exact ⟨i, j, rfl, rfl, c, h2⟩
instance : ∀ i j, Decidable (CMulW i j) := fun i j => by unfold CMulW; infer_instance
instance : ∀ i j, Decidable (CDivW i j) := fun i j => by unfold CDivW; infer_instance
instance : ∀ i j, Decidable (CPow i j) := fun i j => by unfold CPow; infer_instance
abbrev CPos : TC := fun _ j => 0 < j
abbrev oSub : O2 := oI C0 gSub
abbrev oDiv : O2 := oI CDivW gDiv
abbrev oMod : O2 := oI CPos gMod
abbrev oPow : O2 := oI CPow gPow
abbrev oLt : O2 := oI C0 gLt
abbrev oLe : O2 := oI C0 gLe
abbrev oGt : O2 := oI C0 gGt
abbrev oGe : O2 := oI C0 gGe
theorem k_sub : Z2 K (rI0 fun i j => .int (i - j)) (fo2 oSub) := z_sub.imp fun t u Q h => fo_oI h
theorem k_div : Z2 K (rI CDivW fun i j => .int (i / j)) (fo2 oDiv) := z_div.imp fun t u Q h => fo_oI h
theorem k_mod : Z2 K (rI (fun _ j => 0 < j) fun i j => .int (i % j)) (fo2 oMod) := z_mod.imp fun t u Q h => fo_oI h
theorem k_pow : Z2 K (rI CPow fun i j => .int (i ^ j.toNat)) (fo2 oPow) := z_pow.imp fun t u Q h => fo_oI h
theorem k_lt : Z2 K (rI0 fun i j => .bl (decide (i < j))) (fo2 oLt) := z_lt.imp fun t u Q h => fo_oI h
theorem k_le : Z2 K (rI0 fun i j => .bl (decide (i ≤ j))) (fo2 oLe) := z_le.imp fun t u Q h => fo_oI h
theorem k_gt : Z2 K (rI0 fun i j => .bl (decide (j < i))) (fo2 oGt) := z_gt.imp fun t u Q h => fo_oI h
theorem k_ge : Z2 K (rI0 fun i j => .bl (decide (j ≤ i))) (fo2 oGe) := z_ge.imp fun t u Q h => fo_oI h
def oNeg : O1
  | .int i => some (.int (-i))
  | _ => none
theorem k_neg : Z1 K (rU fun i => .int (-i)) (fo1 oNeg) := fun F H t v Q Qd a b ⟨r, h1, h2⟩ q => by
  cases t with
  | int i => cases h1; exact z_neg F H (.int i) v Q Qd a b ⟨i, rfl, h2⟩ q
  | _ => cases h1
/-- + of intsT, of lists -/
def oPlus : O2 := fun t u => match t, u with
  | .int i, .int j => some (.int (i + j))
  | .lst l, .lst m => if l.length + m.length ≤ sizeLine then some (.lst (l ++ m)) else none
  | _, _ => none
abbrev rPlus (K : PySem.W.Frag) : R2 := fun x y H Q => (rI0 fun i j => .int (i + j)) x y H Q ∨ rCat x y H Q
theorem op_plus {X : Cx} : OpR X (binaryOp .Add) (rPlus X.K) := op_add.or op_cat
theorem k_plus : Z2 K (rPlus K) (fo2 oPlus) := Z2.or z_add z_catL fun t u Q ⟨r, h1, h2⟩ => by
  cases t with
  | int i => cases u with
    | int j => cases h1; exact .inl ⟨i, j, rfl, rfl, trivial, h2⟩
    | _ => cases h1
  | lst l => cases u with
    | lst m =>
      have h' : (if l.length + m.length ≤ sizeLine then some (T.lst (l ++ m)) else none) = some r := h1
      by_cases z : l.length + m.length ≤ sizeLine
      · rw [if_pos z] at h'; cases h'; exact .inr ⟨l, m, rfl, rfl, z, h2⟩
      · rw [if_neg z] at h'; cases h'
    | _ => cases h1
  | _ => cases h1
/-- * of intsT, of a list and an int -/
def oTimes : O2 := fun t u => match t, u with
  | .int i, .int j => if CMulW i j then some (.int (i * j)) else none
  | .lst l, .int k => if -(2 ^ 63) ≤ k ∧ k < 2 ^ 63 ∧ l.length * k.toNat ≤ sizeLine then some (.lst (List.replicate k.toNat l).flatten) else none
  | _, _ => none
abbrev rTimes (K : PySem.W.Frag) : R2 := fun x y H Q => (rI CMulW fun i j => .int (i * j)) x y H Q ∨ rRep x y H Q
theorem op_times {X : Cx} : OpR X (binaryOp .Mult) (rTimes X.K) := op_mulW.or op_rep
theorem k_times : Z2 K (rTimes K) (fo2 oTimes) := Z2.or z_mul z_repL fun t u Q ⟨r, h1, h2⟩ => by
  cases t with
  | int i => cases u with
    | int j =>
      have h' : (if CMulW i j then some (T.int (i * j)) else none) = some r := h1
      by_cases z : CMulW i j
      · rw [if_pos z] at h'; cases h'; exact .inl ⟨i, j, rfl, rfl, z, h2⟩
      · rw [if_neg z] at h'; cases h'
    | _ => cases h1
  | lst l => cases u with
    | int k =>
      have h' : (if -(2 ^ 63) ≤ k ∧ k < 2 ^ 63 ∧ l.length * k.toNat ≤ sizeLine then some (T.lst (List.replicate k.toNat l).flatten) else none) = some r := h1
      by_cases z : -(2 ^ 63) ≤ k ∧ k < 2 ^ 63 ∧ l.length * k.toNat ≤ sizeLine
      · rw [if_pos z] at h'; cases h'; exact .inr ⟨l, k, rfl, rfl, z.1, z.2.1, z.2.2, h2⟩
      · rw [if_neg z] at h'; cases h'
    | _ => cases h1
  | _ => cases h1
/-- == of data -/
def oEq : O2 := fun t u => (dat t).bind fun d => (dat u).map fun e => .bl (PyData.eqv d e)
def oNe : O2 := fun t u => (dat t).bind fun d => (dat u).map fun e => .bl (!PyData.eqv d e)
theorem k_eq : Z2 K (rEqD K) (fo2 oEq) := z_eq.imp fun t u Q ⟨r, h1, h2⟩ => by
  obtain ⟨d, e1, h⟩ := bind_some h1
  obtain ⟨e, e2, rfl⟩ := map_some h
  exact ⟨d, e, e1, e2, h2⟩
theorem k_ne : Z2 K (rNeD K) (fo2 oNe) := z_ne.imp fun t u Q ⟨r, h1, h2⟩ => by
  obtain ⟨d, e1, h⟩ := bind_some h1
  obtain ⟨e, e2, rfl⟩ := map_some h
  exact ⟨d, e, e1, e2, h2⟩
/-- in: of flat things, of data in a list -/
def inF (x : T) (u : T) : Option Bool := (flT x).bind fun a => (seqT u).bind fun l => (flTs l).map fun xs => inV a xs
def inDt (x : T) (u : T) : Option Bool := (dat x).bind fun d => match dat u with
  | some (.list ds) => some (ds.any fun z => PyData.eqv z d)
  | _ => none
def inB (x u : T) : Option Bool := match inF x u with
  | some b => some b
  | none => inDt x u
def oIn : O2 := fun t u => (inB t u).map .bl
def oNotIn : O2 := fun t u => (inB t u).map fun b => .bl !b
theorem inF_ok {x u : T} {b : Bool} (h : inF x u = some b) : ∃ a l xs, flT x = some a ∧ seqT u = some l ∧ flTs l = some xs ∧ b = inV a xs := by
  obtain ⟨a, e1, h⟩ := bind_some h
  obtain ⟨l, e2, h⟩ := bind_some h
  obtain ⟨xs, e3, e4⟩ := map_some h
  exact ⟨a, l, xs, e1, e2, e3, e4.symm⟩
theorem inD_ok {x u : T} {b : Bool} (h : inDt x u = some b) : ∃ d ds, dat x = some d ∧ dat u = some (.list ds) ∧ b = ds.any fun z => PyData.eqv z d := by
  obtain ⟨d, e1, h⟩ := bind_some h
  cases e : dat u with
  | none => rw [e] at h; cases h
  | some e' =>
    rw [e] at h
    cases e' with
    | list ds => cases h; exact ⟨d, ds, e1, rfl, rfl⟩
    | _ => cases h
abbrev rInA (K : PySem.W.Frag) : R2 := fun x y H Q => rIn K false x y H Q ∨ rInD K x y H Q
abbrev rNotInA (K : PySem.W.Frag) : R2 := fun x y H Q => rIn K true x y H Q ∨ rNotInD K x y H Q
theorem op_inA {X : Cx} (hu : X.A.units + 65 < cLine) : OpR X (compareOp .In) (rInA X.K) := op_in_seq.or (op_inD hu)
theorem op_notInA {X : Cx} (hu : X.A.units + 65 < cLine) : OpR X (compareOp .NotIn) (rNotInA X.K) := op_notIn_seq.or (op_notInD hu)
theorem k_in : Z2 K (rInA K) (fo2 oIn) := Z2.or z_inF z_inD fun t u Q ⟨r, h1, h2⟩ => by
  obtain ⟨b, e1, rfl⟩ := map_some (show (inB t u).map T.bl = some r from h1)
  unfold inB at e1
  cases e : inF t u with
  | some b' =>
    rw [e] at e1; cases e1
    obtain ⟨a, l, xs, x1, x2, x3, rfl⟩ := inF_ok e
    exact .inl ⟨a, l, xs, x1, x2, x3, h2⟩
  | none =>
    rw [e] at e1
    obtain ⟨d, ds, x1, x2, rfl⟩ := inD_ok e1
    exact .inr ⟨d, ds, x1, x2, h2⟩
theorem k_notIn : Z2 K (rNotInA K) (fo2 oNotIn) := Z2.or z_inF z_notInD fun t u Q ⟨r, h1, h2⟩ => by
  obtain ⟨b, e1, rfl⟩ := map_some (show (inB t u).map (fun b => T.bl !b) = some r from h1)
  unfold inB at e1
  cases e : inF t u with
  | some b' =>
    rw [e] at e1; cases e1
    obtain ⟨a, l, xs, x1, x2, x3, rfl⟩ := inF_ok e
    exact .inl ⟨a, l, xs, x1, x2, x3, h2⟩
  | none =>
    rw [e] at e1
    obtain ⟨d, ds, x1, x2, rfl⟩ := inD_ok e1
    exact .inr ⟨d, ds, x1, x2, h2⟩
def oIsN : O2 := fun t u => match u with
  | .non => some (.bl (isNonT t))
  | _ => none
def oNotN : O2 := fun t u => match u with
  | .non => some (.bl !(isNonT t))
  | _ => none
theorem k_isN : Z2 K (fun x y H Q => y = .non ∧ Q (.bl (decide (x = .non))) H) (fo2 oIsN) := z_isN.imp fun t u Q ⟨r, h1, h2⟩ => by
  cases u with
  | non => cases h1; exact ⟨rfl, h2⟩
  | _ => cases h1
theorem k_notN : Z2 K (fun x y H Q => y = .non ∧ Q (.bl (!decide (x = .non))) H) (fo2 oNotN) := z_notN.imp fun t u Q ⟨r, h1, h2⟩ => by
  cases u with
  | non => cases h1; exact ⟨rfl, h2⟩
  | _ => cases h1
def oIx : O2 := fun t u => match u with
  | .int i => (seqT t).bind fun l => atI l i
  | _ => none
theorem ix_lt {X : Cx} : IxR X fun x y H Q => rIxL X.K x y H Q ∨ rIxT X.K x y H Q := .or ix_list ix_tup
theorem k_ix : Z2 K (fun x y H Q => rIxL K x y H Q ∨ rIxT K x y H Q) (fo2 oIx) := z_ix.imp fun t u Q ⟨r, h1, h2⟩ => by
  cases u with
  | int i =>
    obtain ⟨l, e1, e2⟩ := bind_some (show (seqT t).bind (fun l => atI l i) = some r from h1)
    exact ⟨l, i, r, e1, rfl, e2, h2⟩
  | _ => cases h1
/-! ### built-ins -/
def oIsi : ON
  | [x, c] => (tyT x).bind fun t => (clsT c).bind fun ns => (isiB t ns).map .bl
  | _ => none
theorem k_isi : ZN K (rIsiA K) (foN oIsi) := z_isi.imp fun ts Q ⟨r, h1, h2⟩ => by
  match ts, h1 with
  | [x, c], h1 =>
    obtain ⟨t, e1, h⟩ := bind_some (show (tyT x).bind (fun t => (clsT c).bind fun ns => (isiB t ns).map .bl) = some r from h1)
    obtain ⟨ns, e2, h⟩ := bind_some h
    obtain ⟨b, e3, rfl⟩ := map_some h
    exact ⟨x, c, t, ns, b, rfl, e1, e2, e3, h2⟩
def oLen : ON
  | [x] => (lenT x).map fun n : Nat => .int (n : Int)
  | _ => none
theorem k_len : ZN K (fun xs H Q => ∃ x n, xs = [x] ∧ LenV K x H n ∧ Q (.int n) H) (foN oLen) := z_len.imp fun ts Q ⟨r, h1, h2⟩ => by
  match ts, h1 with
  | [x], h1 =>
    obtain ⟨n, e1, rfl⟩ := map_some (show (lenT x).map (fun n : Nat => T.int (n : Int)) = some r from h1)
    exact ⟨x, n, rfl, e1, h2⟩
def bls : List T → Option (List Bool)
  | [] => some []
  | .bl b :: l => (bls l).map (b :: ·)
  | _ :: _ => none
def intsT : List T → Option (List Int)
  | [] => some []
  | .int b :: l => (intsT l).map (b :: ·)
  | _ :: _ => none
theorem bls_ok : ∀ {l : List T} {bs : List Bool}, bls l = some bs → l = bs.map .bl
  | [], bs, h => by cases h; rfl
  | .bl b :: l, bs, h => by
    obtain ⟨r, e, rfl⟩ := map_some (show (bls l).map (b :: ·) = some bs from h)
    rw [bls_ok e]; rfl
theorem intsT_ok : ∀ {l : List T} {bs : List Int}, intsT l = some bs → l = bs.map .int
  | [], bs, h => by cases h; rfl
  | .int b :: l, bs, h => by
    obtain ⟨r, e, rfl⟩ := map_some (show (intsT l).map (b :: ·) = some bs from h)
    rw [intsT_ok e]; rfl
def oAll : ON
  | [x] => (lstT x).bind fun l => (bls l).map fun bs => .bl (bs.all id)
  | _ => none
def oAny : ON
  | [x] => (lstT x).bind fun l => (bls l).map fun bs => .bl (bs.any id)
  | _ => none
def oSum : ON
  | [x] => (lstT x).bind fun l => (intsT l).map fun bs => .int bs.sum
  | _ => none
theorem k_all : ZN K (rAll K) (foN oAll) := z_all.imp fun ts Q ⟨r, h1, h2⟩ => by
  match ts, h1 with
  | [x], h1 =>
    obtain ⟨l, e1, h⟩ := bind_some (show (lstT x).bind (fun l => (bls l).map fun bs => T.bl (bs.all id)) = some r from h1)
    obtain ⟨bs, e2, rfl⟩ := map_some h
    exact ⟨x, bs, rfl, by rw [e1, bls_ok e2], h2⟩
theorem k_any : ZN K (rAny K) (foN oAny) := z_any.imp fun ts Q ⟨r, h1, h2⟩ => by
  match ts, h1 with
  | [x], h1 =>
    obtain ⟨l, e1, h⟩ := bind_some (show (lstT x).bind (fun l => (bls l).map fun bs => T.bl (bs.any id)) = some r from h1)
    obtain ⟨bs, e2, rfl⟩ := map_some h
    exact ⟨x, bs, rfl, by rw [e1, bls_ok e2], h2⟩
theorem k_sum : ZN K (rSum K) (foN oSum) := z_sum.imp fun ts Q ⟨r, h1, h2⟩ => by
  match ts, h1 with
  | [x], h1 =>
    obtain ⟨l, e1, h⟩ := bind_some (show (lstT x).bind (fun l => (intsT l).map fun bs => T.int bs.sum) = some r from h1)
    obtain ⟨bs, e2, rfl⟩ := map_some h
    exact ⟨x, bs, rfl, by rw [e1, intsT_ok e2], h2⟩
def oMin2 : ON
  | [.int i, .int j] => some (.int (if j < i then j else i))
  | _ => none
def oMax2 : ON
  | [.int i, .int j] => some (.int (if j > i then j else i))
  | _ => none
theorem k_min2 : ZN K (fun xs H Q => ∃ i j, xs = [.int i, .int j] ∧ Q (.int (if j < i then j else i)) H) (foN oMin2) := z_min2.imp fun ts Q ⟨r, h1, h2⟩ => by
  match ts, h1 with
  | [.int i, .int j], h1 => cases h1; exact ⟨i, j, rfl, h2⟩
theorem k_max2 : ZN K (fun xs H Q => ∃ i j, xs = [.int i, .int j] ∧ Q (.int (if j > i then j else i)) H) (foN oMax2) := z_max2.imp fun ts Q ⟨r, h1, h2⟩ => by
  match ts, h1 with
  | [.int i, .int j], h1 => cases h1; exact ⟨i, j, rfl, h2⟩
def oInt : ON
  | [.int i] => some (.int i)
  | [.bl k] => some (.int (if k then 1 else 0))
  | _ => none
theorem k_int : ZN K (fun xs H Q => (∃ i, xs = [.int i] ∧ Q (.int i) H) ∨ ∃ k, xs = [.bl k] ∧ Q (.int (if k then 1 else 0)) H) (foN oInt) := z_intc.imp fun ts Q ⟨r, h1, h2⟩ => by
  match ts, h1 with
  | [.int i], h1 => cases h1; exact .inl ⟨i, rfl, h2⟩
  | [.bl k], h1 => cases h1; exact .inr ⟨k, rfl, h2⟩
def oList : ON
  | [x] => (seqT x).bind fun l => (szL l).map .lst
  | _ => none
def oTuple : ON
  | [x] => (seqT x).bind fun l => (szL l).map .tup
  | _ => none
theorem k_list : ZN K (fun xs H Q => ∃ p ys, xs = [.ref p] ∧ (SqL K H p ys ∨ SqT K H p ys) ∧ ∀ l, H l = none → Q (.ref l) (upd H l (.lst ys))) (foN oList) := z_list.imp fun ts Q ⟨r, h1, h2⟩ => by
  match ts, h1 with
  | [x], h1 =>
    obtain ⟨l, e1, h⟩ := bind_some (show (seqT x).bind (fun l => (szL l).map .lst) = some r from h1)
    obtain ⟨m, e2, rfl⟩ := map_some h
    obtain ⟨rfl, z⟩ := szL_ok e2
    exact ⟨x, m, rfl, e1, z, h2⟩
theorem k_tuple : ZN K (fun xs H Q => ∃ p ys, xs = [.ref p] ∧ ((SqL K H p ys ∧ ∀ l, H l = none → Q (.ref l) (upd H l (.tup ys))) ∨ (SqT K H p ys ∧ Q (.ref p) H))) (foN oTuple) := z_tuple.imp fun ts Q ⟨r, h1, h2⟩ => by
  match ts, h1 with
  | [x], h1 =>
    obtain ⟨l, e1, h⟩ := bind_some (show (seqT x).bind (fun l => (szL l).map .tup) = some r from h1)
    obtain ⟨m, e2, rfl⟩ := map_some h
    obtain ⟨rfl, z⟩ := szL_ok e2
    exact ⟨x, m, rfl, e1, z, h2⟩
end
/-! ### slices -/
section
variable {X : Cx} {W : WX} {e a : Expr} {pos p2 : Pos} {g ga : Gx}
abbrev Go := En → Mu → Pr (Option Int)
def wPO (g : Go) : WO := fun ρ μ Q E => (g ρ μ).run (fun o => Q o μ) fun e => E e μ
structure GO (X : Cx) (W : WX) (e : Option Expr) (g : Go) : Prop where
  z : ZO X W e (wPO g)
theorem ZO.imp {e : Option Expr} {w w' : WO} (h : ZO X W e w) (f : ∀ ρ μ Q E, w' ρ μ Q E → w ρ μ Q E) : ZO X W e w' := ⟨PO.imp h.po fun σ H Q ⟨F, β, ρ, μ, Qd, Ed, s, l, q, o, h⟩ => ⟨F, β, ρ, μ, Qd, Ed, s, l, q, o, f _ _ _ _ h⟩⟩
def goNone : Go := fun _ _ => .ok none
def intT : T → Option Int
  | .int i => some i
  | _ => none
def goSome (g : Gx) : Go := fun ρ μ => (g ρ μ).bind fun t => .of ((intT t).map some)
theorem go_none : GO X W none goNone := ⟨zo_none.imp fun ρ μ Q E h => h⟩
theorem go_some (h : GE X W e g) : GO X W (some e) (goSome g) := ⟨(zo_some h.z).imp fun ρ μ Q E q => Pr.run_mono (Pr.run_bind q) (fun t h => by
  obtain ⟨o, h1, h2⟩ := Pr.run_of h
  obtain ⟨i, e1, rfl⟩ := map_some h1
  cases t with
  | int j => cases e1; exact ⟨i, rfl, h2⟩
  | _ => cases e1) fun _ h => h⟩
def slT (lo hi : Option Int) : T → Option T := fun t => (lstT t).bind fun l => (szL l).map fun l => .lst (cutT l lo hi)
def gSl (ga : Gx) (gl gh : Go) : Gx := fun ρ μ => (ga ρ μ).bind fun t => (gl ρ μ).bind fun lo => (gh ρ μ).bind fun hi => .of (slT lo hi t)
theorem ge_slice {lo hi : Option Expr} {gl gh : Go} (ha : GV X W a ga) (hl : GO X W lo gl) (hh : GO X W hi gh) : GE X W (.Subscript a (.Slice lo hi none p2) pos) (gSl ga gl gh) :=
  ⟨(ze_slice sl_list z_sl ha.z hl.z hh.z).imp fun ρ μ Q E q => Pr.run_mono (Pr.run_bind q) (fun t h d hd => Pr.run_mono (Pr.run_bind h) (fun lo h => Pr.run_mono (Pr.run_bind h) (fun hi h => by
    obtain ⟨r, h1, h2⟩ := Pr.run_of h
    obtain ⟨l, e1, h3⟩ := bind_some (show (lstT t).bind (fun l => (szL l).map fun l => T.lst (cutT l lo hi)) = some r from h1)
    obtain ⟨m, e2, rfl⟩ := map_some h3
    obtain ⟨rfl, z⟩ := szL_ok e2
    exact ⟨t, hd, m, e1, z, h2⟩) fun _ h => h) fun _ h => h) fun _ h => h⟩
end
end Zy
set_option Elab.async false
set_option linter.all false
set_option maxRecDepth 100000
set_option maxHeartbeats 400000
/-! ZL: pure defs by their names. -/
namespace Zy
open PySem PySem.Spec PyProof.Rows L2
/-- the pure def x, called with all but the last arguments, these being dts -/
structure PD (P : Program) (w : World) (K : PySem.W.Frag) (mg : Str → Option Value) (base : Heap) (x : Str) (ps : List Str) (k : Nat) (dts : List T) (f : List T → Pr T) : Prop where
  ex : ∃ fa fd dvs dsv, mg x = some (.ref fa) ∧ PySem.W.keepIn K (.ref fa) = true ∧ FnOk P w K mg base (L2.CX P w) k fa fd ps (spZ K ps.length (purE f)) ∧ Binds K fd ps dsv ∧ Vals dvs dsv ∧ ∀ F H, RepL K F H dts dvs
section
variable {X : Cx} {W : WX} {e : Expr} {es : List Expr} {p pos : Pos} {gs : Ga}
theorem ge_pd {x : Str} {ps : List Str} {k n j : Nat} {dts : List T} {f : List T → Pr T} (h : PD X.prog X.w X.K X.mg X.base x ps k dts f) (hr : Room j X.A) (hk : k ≤ j) (tk : Takes X W) (hl : GLen n gs) (ha : GA X W (e :: es) gs) (hn : n + dts.length = ps.length := by rfl) (hg : Gl X x := by rfl) (hdb : (x == ("__debug__" : Str)) = false := by decide)
    (he : starEach (e :: es) X.env = (false, eval e X.env) :: starEach es X.env := by rfl) (hpl : (backTo pos (starEach es X.env)).any (·.1) = false := by rfl) : GE X W (.Call (.Name x p) (e :: es) [] pos) (gCall f dts gs) := by
  obtain ⟨fa, fd, dvs, dsv, h1, h2, h3, h4, h5, h6⟩ := h.ex
  exact ge_call h3 (hr.mono hk) h1 h2 h4 h5 h6 tk hl ha hn hg hdb he hpl
end
section
variable {P : Program} {w : World} {K : PySem.W.Frag} {mg : Str → Option Value} {base : Heap}
theorem PD.of {x : Str} {qual : Str} {params : Arguments} {body : List Stmt} {scope : Scope} {f : Addr} {fd : FuncData} {ps : List Str} {k : Nat} {fn : List T → Pr T} (F : FunD K x qual params body scope [] [] f fd) (hm : mg x = some (.ref f)) (h : FnOk P w K mg base (L2.CX P w) k f fd ps (spZ K ps.length (purE fn)))
    (hb : ∀ (kV doc pm : Value) (an : Option Addr) (cdv ct : Value) (us : List Value), us.length = ps.length → bindArgs (PySem.W.fnOf x qual params body scope Value.none kV doc pm an cdv ct) { pos := us } = pure (ps.zip us)) : PD P w K mg base x ps k [] fn :=
  ⟨f, fd, [], [], hm, F.kp, h, F.bindsN hb, .nil, fun _ _ => .nil⟩
/-- nothing is said of it: where a recursion starts -/
theorem PD.zero {x : Str} {qual : Str} {params : Arguments} {body : List Stmt} {scope : Scope} {f : Addr} {fd : FuncData} {ps : List Str} {k : Nat} (F : FunD K x qual params body scope [] [] f fd) (hm : mg x = some (.ref f))
    (hb : ∀ (kV doc pm : Value) (an : Option Addr) (cdv ct : Value) (us : List Value), us.length = ps.length → bindArgs (PySem.W.fnOf x qual params body scope Value.none kV doc pm an cdv ct) { pos := us } = pure (ps.zip us)) : PD P w K mg base x ps k [] (fun _ => .bad) := by
  have no : ∀ {vs H Q E}, ¬ spZ K ps.length (purE fun _ => .bad) vs H Q E := fun ⟨F, β, ds, μ, Qd, Ed, _, _, _, _, _, _, ts, _, h⟩ => h
  exact ⟨f, fd, [], [], hm, F.kp, ⟨fun vs H Q E h => (no h).elim, fun A outer s H args us vs Q E _ _ _ _ h => (no h).elim⟩, F.bindsN hb, .nil, fun _ _ => .nil⟩
theorem PD.dfl {x : Str} {qual : Str} {params : Arguments} {body : List Stmt} {scope : Scope} {f : Addr} {fd : FuncData} {ps : List Str} {k : Nat} {fn : List T → Pr T} {dvs : List V} {dts : List T} (F : FunD K x qual params body scope dvs [] f fd) (hm : mg x = some (.ref f)) (h : FnOk P w K mg base (L2.CX P w) k f fd ps (spZ K ps.length (purE fn)))
    (n j : Nat) (hne : dvs ≠ []) (hn : n + (dvs.length - j) = ps.length)
    (hb : ∀ (T : Addr) (kV doc pm : Value) (an : Option Addr) (cdv ct : Value) (us its : List Value), us.length = n → its.length = dvs.length → ∃ k, bindArgs (PySem.W.fnOf x qual params body scope (Value.ref T) kV doc pm an cdv ct) { pos := us } = seqItems? (Value.ref T) >>= k ∧ k (some its.toArray) = pure (ps.zip (us ++ List.drop j its)))
    (hdt : ∀ F H, RepL K F H dts (dvs.drop j)) : PD P w K mg base x ps k dts fn := by
  obtain ⟨ds, h1, h2⟩ := F.binds1 n j hne hn hb
  exact ⟨f, fd, _, ds, hm, F.kp, h, h2, h1, hdt⟩
end
theorem hu64 {k : Nat} {A : Around} (hr : Room k A) : A.units + 64 < cLine := by have := hr.un; omega
theorem hu65 {k : Nat} {A : Around} (hr : Room k A) : A.units + 65 < cLine := by have := hr.un; omega
/-- a comprehension's scope, by running -/
def kindB : ScopeKind → Bool
  | .function => true
  | _ => false
def blkB (N : List Str) (sc scope : Scope) (own : List (Str × Nat)) : Bool :=
  kindB scope.kind && (scope.names.all (fun y => decide (scope.names.lookup y.1 = some y.2)) && (own.all (fun p => decide (N[p.2]? = some p.1)) &&
  (scope.names.all (fun y => decide (y.2 = .free → sc.names.lookup y.1 = some .cell ∨ sc.names.lookup y.1 = some .free)) &&
   scope.names.all (fun y => decide (y.2 = .local ∨ y.2 = .cell → y.1 ∈ own.map (·.1) ∨ ¬ y.1 ∈ N)))))
theorem blk_of {N : List Str} {sc scope : Scope} {own : List (Str × Nat)} (h : blkB N sc scope own = true) : BlkOk N sc scope own := by
  obtain ⟨h1, h⟩ := and2 h
  obtain ⟨h2, h⟩ := and2 h
  obtain ⟨h3, h⟩ := and2 h
  obtain ⟨h4, h5⟩ := and2 h
  refine ⟨?_, fun y hy => of_decide_eq_true (List.all_eq_true.mp h2 y hy), fun y hy => of_decide_eq_true (List.all_eq_true.mp h3 y hy), fun y hy => of_decide_eq_true (List.all_eq_true.mp h4 y hy), fun y hy => of_decide_eq_true (List.all_eq_true.mp h5 y hy)⟩
  cases e : scope.kind <;> first | rfl | (rw [e] at h1; cases h1)
end Zy
set_option Elab.async false
set_option linter.all false
set_option maxRecDepth 100000
set_option maxHeartbeats 400000
/-! ZM: sorted of tuples of ints (no number below 0, all of one length). -/
namespace Zy
open PySem PySem.Spec PyProof.Rows L2
theorem sort_uniq {α : Type} (c : α → Int) : ∀ {l1 l2 : List α}, l1.Perm l2 → l1.Pairwise (fun a b => c a ≤ c b) → l2.Pairwise (fun a b => c a ≤ c b) → (∀ a ∈ l1, ∀ b ∈ l1, c a = c b → a = b) → l1 = l2
  | [], l2, p, _, _, _ => (List.nil_perm.mp p).symm
  | a :: l1, [], p, _, _, _ => absurd p.length_eq (by simp)
  | a :: l1, b :: l2, p, h1, h2, i => by
    have hb : b ∈ a :: l1 := p.mem_iff.mpr List.mem_cons_self
    have ha : a ∈ b :: l2 := p.mem_iff.mp List.mem_cons_self
    have e : a = b := by
      rcases List.mem_cons.mp hb with rfl | hb'
      · rfl
      · rcases List.mem_cons.mp ha with rfl | ha'
        · rfl
        · have x := (List.pairwise_cons.mp h1).1 b hb'
          have y := (List.pairwise_cons.mp h2).1 a ha'
          exact i a List.mem_cons_self b hb (Int.le_antisymm x y)
    subst e
    rw [sort_uniq c (List.perm_cons a |>.mp p) (List.pairwise_cons.mp h1).2 (List.pairwise_cons.mp h2).2 fun x hx y hy => i x (List.mem_cons_of_mem _ hx) y (List.mem_cons_of_mem _ hy)]
section
variable {K : PySem.W.Frag} {F : Fz} {H : Hp}
theorem repL_perm {xs ys : List V} (p : ys.Perm xs) : ∀ {l : List T}, RepL K F H l xs → ∃ l', l'.Perm l ∧ RepL K F H l' ys := by
  have key : ∀ {xs ys : List V}, xs.Perm ys → ∀ {l : List T}, RepL K F H l xs → ∃ l', l'.Perm l ∧ RepL K F H l' ys := by
    intro xs ys p
    induction p with
    | nil => intro l r; exact ⟨l, .refl _, r⟩
    | cons x p ih =>
      intro l r
      cases l with
      | nil => unfold RepL at r; cases r
      | cons t l =>
        unfold RepL at r
        obtain ⟨y, yr, e, r1, r2⟩ := r
        cases e
        obtain ⟨l', p', r'⟩ := ih r2
        exact ⟨t :: l', p'.cons t, .cons r1 r'⟩
    | swap x y zs =>
      intro l r
      cases l with
      | nil => unfold RepL at r; cases r
      | cons t l =>
        unfold RepL at r
        obtain ⟨u, ur, e, r1, r2⟩ := r
        cases e
        cases l with
        | nil => unfold RepL at r2; cases r2
        | cons t2 l =>
          unfold RepL at r2
          obtain ⟨u2, ur2, e, r3, r4⟩ := r2
          cases e
          exact ⟨t2 :: t :: l, .swap t t2 l, .cons r3 (.cons r1 r4)⟩
    | trans p q ihp ihq =>
      intro l r
      obtain ⟨l1, p1, r1⟩ := ihp r
      obtain ⟨l2, p2, r2⟩ := ihq r1
      exact ⟨l2, p2.trans p1, r2⟩
  exact fun {l} r => key p.symm r
def tupIT : T → Option (List Int)
  | .tup l => intsT l
  | _ => none
def tupsT : List T → Option (List (List Int))
  | [] => some []
  | t :: l => (tupIT t).bind fun n => (tupsT l).map (n :: ·)
abbrev tupOf (ns : List Int) : T := .tup (ns.map .int)
theorem tupIT_ok {t : T} {ns : List Int} (h : tupIT t = some ns) : t = tupOf ns := by
  cases t with
  | tup l => rw [intsT_ok (show intsT l = some ns from h)]
  | _ => cases h
theorem tupsT_ok : ∀ {l : List T} {nss : List (List Int)}, tupsT l = some nss → l = nss.map tupOf
  | [], nss, h => by cases h; rfl
  | t :: l, nss, h => by
    obtain ⟨n, e1, h⟩ := bind_some (show (tupIT t).bind (fun n => (tupsT l).map (n :: ·)) = some nss from h)
    obtain ⟨r, e2, rfl⟩ := map_some h
    rw [tupIT_ok e1, tupsT_ok e2]; rfl
theorem tupOf_inj {a b : List Int} (h : tupOf a = tupOf b) : a = b := by
  have h' : a.map T.int = b.map T.int := by injection h
  clear h
  induction a generalizing b with
  | nil => cases b with
    | nil => rfl
    | cons y b => cases h'
  | cons x a ih => cases b with
    | nil => cases h'
    | cons y b =>
      rw [List.map_cons, List.map_cons] at h'
      injection h' with h1 h2
      injection h1 with h1
      rw [h1, ih h2]
theorem tupI_rep {ns : List Int} {v : V} (r : Rep K F H (tupOf ns) v) : TupI K H v ns := by
  unfold tupOf Rep at r
  obtain ⟨_, a, xs, rfl, q, rl⟩ := r
  exact ⟨a, rfl, by rw [← ints_rep rl]; exact q.sq⟩
def wid : List (List Int) → Nat
  | [] => 1
  | n :: _ => n.length
def top1 (nss : List (List Int)) : Int := nss.flatten.foldl (fun a b => max a b) 0 + 1
theorem foldl_max {l : List Int} : ∀ a : Int, a ≤ l.foldl (fun a b => max a b) a ∧ ∀ x ∈ l, x ≤ l.foldl (fun a b => max a b) a := by
  induction l with
  | nil => intro a; exact ⟨Int.le_refl _, fun x hx => nomatch hx⟩
  | cons y l ih =>
    intro a
    obtain ⟨h1, h2⟩ := ih (max a y)
    refine ⟨Int.le_trans (Int.le_max_left a y) h1, fun x hx => ?_⟩
    rcases List.mem_cons.mp hx with rfl | hx
    · exact Int.le_trans (Int.le_max_right a x) h1
    · exact h2 x hx
def okS (nss : List (List Int)) : Prop := nss.length < 64 ∧ 1 ≤ wid nss ∧ ∀ n ∈ nss, n.length = wid nss ∧ ∀ m ∈ n, 0 ≤ m
instance (nss : List (List Int)) : Decidable (okS nss) := by unfold okS; infer_instance
def sortC (nss : List (List Int)) : List (List Int) := nss.mergeSort fun a b => decide (TS.code (top1 nss) a ≤ TS.code (top1 nss) b)
theorem okS_bd {nss : List (List Int)} (h : okS nss) : ∀ n ∈ nss, n.length = wid nss ∧ TS.Bd (top1 nss) n := fun n hn => ⟨(h.2.2 n hn).1, fun m hm => ⟨(h.2.2 n hn).2 m hm, by
  have := (foldl_max (l := nss.flatten) 0).2 m (List.mem_flatten.mpr ⟨n, hn, hm⟩)
  unfold top1; omega⟩⟩
theorem code_cons (B d : Int) (r : List Int) : TS.code B (d :: r) = d * B ^ r.length + TS.code B r := rfl
theorem code_inj {B : Int} : ∀ {a b : List Int}, a.length = b.length → TS.Bd B a → TS.Bd B b → TS.code B a = TS.code B b → a = b
  | [], [], _, _, _, _ => rfl
  | [], _ :: _, h, _, _, _ => by cases h
  | _ :: _, [], h, _, _, _ => by cases h
  | d :: r, e :: q, hl, h1, h2, hc => by
    have hl' : r.length = q.length := by simpa using hl
    rw [code_cons, code_cons, hl'] at hc
    have b1 := TS.code_bd r h1.tail
    have b2 := TS.code_bd q h2.tail
    rw [hl'] at b1
    have de : d = e := by
      rcases Int.lt_trichotomy d e with z | z | z
      · have := TS.num2 (P := B ^ q.length) b1.1 b1.2 b2.1 z; omega
      · exact z
      · have := TS.num2 (P := B ^ q.length) b2.1 b2.2 b1.1 z; omega
    subst de
    rw [code_inj hl' h1.tail h2.tail (by omega)]
theorem sortC_perm (nss : List (List Int)) : (sortC nss).Perm nss := List.mergeSort_perm _ _
theorem sortC_pw (nss : List (List Int)) : (sortC nss).Pairwise fun a b => TS.code (top1 nss) a ≤ TS.code (top1 nss) b := by
  have := List.pairwise_mergeSort (le := fun a b => decide (TS.code (top1 nss) a ≤ TS.code (top1 nss) b)) (fun a b c h1 h2 => by
    have h1' := of_decide_eq_true h1
    have h2' := of_decide_eq_true h2
    exact decide_eq_true (Int.le_trans h1' h2')) (fun a b => by
    rcases Int.le_total (TS.code (top1 nss) a) (TS.code (top1 nss) b) with z | z
    · simp [z]
    · simp [z]) nss
  exact this.imp fun h => of_decide_eq_true h
/-- sorted -/
def oSorted : ON
  | [x] => (lstT x).bind fun l => (tupsT l).bind fun nss => if okS nss then some (.lst ((sortC nss).map tupOf)) else none
  | _ => none
abbrev rSortA (K : PySem.W.Frag) : List V → Hp → VK → Prop := fun vs H Q => ∃ d B, 1 ≤ d ∧ rSortU K d B vs H Q
theorem cr_sortA {X : Cx} : CallR X (.builtin "sorted") (rSortA X.K) := fun pins s σ H xs us Q I r ⟨d, B, hd, h⟩ => cr_sortT hd pins s σ H xs us Q I r h
theorem repL_mem {xs : List V} : ∀ {l : List T}, RepL K F H l xs → ∀ x ∈ xs, ∃ t ∈ l, Rep K F H t x
  | [], r, x, hx => by unfold RepL at r; subst r; cases hx
  | t :: l, r, x, hx => by
    unfold RepL at r
    obtain ⟨y, yr, rfl, r1, r2⟩ := r
    rcases List.mem_cons.mp hx with rfl | hx
    · exact ⟨t, List.mem_cons_self, r1⟩
    · obtain ⟨u, hu, ru⟩ := repL_mem r2 x hx
      exact ⟨u, List.mem_cons_of_mem _ hu, ru⟩
theorem pw_rep {c : List Int → Int} {ys : List V} : ∀ {nss : List (List Int)}, RepL K F H (nss.map tupOf) ys → ys.Pairwise (fun x y => ∀ n m, TupI K H x n → TupI K H y m → c n ≤ c m) → nss.Pairwise fun a b => c a ≤ c b := by
  intro nss
  induction nss generalizing ys with
  | nil => intro _ _; exact .nil
  | cons n nss ih =>
    intro r h
    rw [List.map_cons] at r
    unfold RepL at r
    obtain ⟨y, yr, rfl, r1, r2⟩ := r
    obtain ⟨h1, h2⟩ := List.pairwise_cons.mp h
    refine List.pairwise_cons.mpr ⟨fun m hm => ?_, ih r2 h2⟩
    obtain ⟨i, hi⟩ := List.getElem?_of_mem hm
    obtain ⟨x, ex, rx⟩ := r2.get (i := i) (t := tupOf m) (by rw [List.getElem?_map, hi]; rfl)
    exact h1 x (List.mem_of_getElem? ex) n m (tupI_rep r1) (tupI_rep rx)
theorem perm_map_tup {l : List T} {nss : List (List Int)} (p : l.Perm (nss.map tupOf)) : ∃ mss : List (List Int), l = mss.map tupOf ∧ mss.Perm nss := by
  have : ∀ t ∈ l, ∃ n, t = tupOf n := fun t ht => by
    obtain ⟨n, _, e⟩ := List.mem_map.mp (p.mem_iff.mp ht)
    exact ⟨n, e.symm⟩
  obtain ⟨mss, rfl⟩ : ∃ mss : List (List Int), l = mss.map tupOf := by
    clear p
    induction l with
    | nil => exact ⟨[], rfl⟩
    | cons t l ih =>
      obtain ⟨n, rfl⟩ := this t List.mem_cons_self
      obtain ⟨m, rfl⟩ := ih fun t ht => this t (List.mem_cons_of_mem _ ht)
      exact ⟨n :: m, rfl⟩
  refine ⟨mss, rfl, ?_⟩
  have q := p.filterMap tupIT
  have id : ∀ k : List (List Int), (k.map tupOf).filterMap tupIT = k := fun k => by
    induction k with
    | nil => rfl
    | cons n k ih =>
      have e : tupIT (tupOf n) = some n := by
        show intsT (n.map T.int) = some n
        induction n with
        | nil => rfl
        | cons a n ih => show (intsT (n.map T.int)).map (a :: ·) = _; rw [ih]; rfl
      rw [List.map_cons, List.filterMap_cons, e, ih]
  rwa [id, id] at q
theorem k_sorted : ZN K (rSortA K) (foN oSorted) := by
  intro F H ts vs Q Qd hf r ⟨x, h1, h2⟩ q
  match ts, h1 with
  | [t], h1 =>
    obtain ⟨l, e1, h⟩ := bind_some (show (lstT t).bind (fun l => (tupsT l).bind fun nss => if okS nss then some (T.lst ((sortC nss).map tupOf)) else none) = some x from h1)
    obtain ⟨nss, e2, h⟩ := bind_some h
    by_cases z : okS nss
    · rw [if_pos z] at h
      cases h
      have el := tupsT_ok e2
      subst el
      obtain ⟨v, rfl, r1⟩ := nowL1 r
      obtain ⟨a, xs, rfl, hq, rl⟩ := lst_now e1 r1
      refine ⟨wid nss, top1 nss, z.2.1, a, xs, rfl, hq, by rw [rl.length, List.length_map]; exact z.1, fun x hx => ?_, fun ys p hp hpw => ?_⟩
      · obtain ⟨t, ht, rt⟩ := repL_mem rl x hx
        obtain ⟨n, hn, rfl⟩ := List.mem_map.mp ht
        exact ⟨n, tupI_rep rt, okS_bd z n hn⟩
      · obtain ⟨l', pl, rl'⟩ := repL_perm hp rl
        obtain ⟨mss, rfl, pm⟩ := perm_map_tup pl
        have pw := pw_rep (c := TS.code (top1 nss)) rl' hpw
        have e : mss = sortC nss := sort_uniq (TS.code (top1 nss)) (pm.trans (sortC_perm nss).symm) pw (sortC_pw nss) fun a ha b hb hc => by
          have x1 := okS_bd z a (pm.mem_iff.mp ha)
          have x2 := okS_bd z b (pm.mem_iff.mp hb)
          exact code_inj (x1.1.trans x2.1.symm) x1.2 x2.2 hc
        subst e
        refine pok_lst hf q h2 ?_ rl' p
        rw [List.length_map, (sortC_perm nss).length_eq, sizeLine_eq]
        have := z.1
        omega
    · rw [if_neg z] at h; cases h
end
end Zy
set_option Elab.async false
set_option linter.all false
set_option maxRecDepth 100000
set_option maxHeartbeats 400000
/-! ZN: plain laws of pure comprehensions and loops. -/
namespace Zy
open PySem PySem.Spec PyProof.Rows L2
def mapP (f : T → Pr T) : List T → Pr (List T)
  | [] => .ok []
  | x :: l => (f x).bind fun y => (mapP f l).bind fun r => .ok (y :: r)
theorem Pr.bind_assoc {α β γ : Type} (x : Pr α) (f : α → Pr β) (g : β → Pr γ) : (x.bind f).bind g = x.bind fun a => (f a).bind g := by cases x <;> rfl
theorem Pr.bind_okr {α : Type} (x : Pr α) : (x.bind .ok) = x := by cases x <;> rfl
/-- a comprehension without a test -/
theorem compO_map {tg : Tg} {ge : Gx} {ρ : En} {μ : Mu} {ρx : T → En} (h : ∀ x, tg x ρ = some (ρx x)) : ∀ (l acc : List T), compO tg gYes ge ρ μ l acc = (mapP (fun x => (ge (ρx x) μ).only) l).bind fun r => .ok (acc ++ r)
  | [], acc => by show Pr.ok acc = .ok (acc ++ []); rw [List.append_nil]
  | x :: l, acc => by
    show (Pr.of (tg x ρ)).bind _ = _
    rw [h x]
    show ((gYes (ρx x) μ).only.bind fun b => if b = true then (ge (ρx x) μ).only.bind fun y => compO tg gYes ge ρ μ l (acc ++ [y]) else compO tg gYes ge ρ μ l acc) = _
    show ((ge (ρx x) μ).only.bind fun y => compO tg gYes ge ρ μ l (acc ++ [y])) = (((ge (ρx x) μ).only.bind fun y => (mapP _ l).bind fun r => .ok (y :: r))).bind _
    rw [Pr.bind_assoc]
    congr 1
    funext y
    rw [compO_map h l, Pr.bind_assoc]
    congr 1
    funext r
    show Pr.ok (acc ++ [y] ++ r) = Pr.ok (acc ++ (y :: r))
    rw [List.append_assoc]; rfl
/-- all of them known -/
theorem mapP_ok {f : T → Pr T} {g : T → T} : ∀ {l : List T}, (∀ x ∈ l, f x = .ok (g x)) → mapP f l = .ok (l.map g)
  | [], _ => rfl
  | x :: l, h => by
    show (f x).bind _ = _
    rw [h x List.mem_cons_self]
    show (mapP f l).bind _ = _
    rw [mapP_ok fun y hy => h y (List.mem_cons_of_mem _ hy)]
    rfl
/-! ### evaluation, rule by rule -/
section
variable {ρ : En} {μ : Mu} {g ga gb : Gx} {gs gi : Ga} {gp gq : Gb} {x y r t : T} {l : List T} {b : Bool}
theorem ev_N {f : ON} (h : gs ρ μ = .ok l) (h2 : f l = some r) : gN f gs ρ μ = .ok r := by unfold gN; rw [h]; show Pr.of (f l) = _; rw [h2]; rfl
theorem ev_1 {f : O1} (h : g ρ μ = .ok x) (h2 : f x = some r) : g1 f g ρ μ = .ok r := by unfold g1; rw [h]; show Pr.of (f x) = _; rw [h2]; rfl
theorem ev_2 {f : O2} (h : ga ρ μ = .ok x) (h' : gb ρ μ = .ok y) (h2 : f x y = some r) : g2 f ga gb ρ μ = .ok r := by unfold g2; rw [h]; show (gb ρ μ).bind _ = _; rw [h']; show Pr.of (f x y) = _; rw [h2]; rfl
theorem ev_cons (h : g ρ μ = .ok x) (h' : gs ρ μ = .ok l) : Zy.gCons g gs ρ μ = .ok (x :: l) := by unfold Zy.gCons; rw [h]; show (gs ρ μ).bind _ = _; rw [h']; rfl
theorem ev_lst (h : gs ρ μ = .ok l) (z : l.length ≤ sizeLine) : gLst gs ρ μ = .ok (.lst l) := by unfold gLst; rw [h]; show Pr.of ((szL l).map T.lst) = _; unfold szL; rw [if_pos z]; rfl
theorem ev_tup (h : gs ρ μ = .ok l) (z : l.length ≤ sizeLine) : Zy.gTup gs ρ μ = .ok (.tup l) := by unfold Zy.gTup; rw [h]; show Pr.of ((szL l).map T.tup) = _; unfold szL; rw [if_pos z]; rfl
theorem ev_tru (h : g ρ μ = .ok x) (h2 : truT x = some b) : gTru g ρ μ = .ok b := by unfold gTru; rw [h]; show Pr.of (truT x) = _; rw [h2]; rfl
theorem ev_bl (h : g ρ μ = .ok (.bl b)) : gBl g ρ μ = .ok b := by unfold gBl; rw [h]; rfl
theorem ev_not (h : gp ρ μ = .ok b) : gNotT gp ρ μ = .ok !b := by unfold gNotT; rw [h]; rfl
theorem ev_if {k : Pr T} (h : gp ρ μ = .ok b) (h2 : (if b = true then ga ρ μ else gb ρ μ) = k) : gIf gp ga gb ρ μ = k := by unfold gIf; rw [h]; exact h2
theorem ev_and {k : Pr Bool} (h : gp ρ μ = .ok b) (h2 : (if b = true then gq ρ μ else .ok false) = k) : gAndT gp gq ρ μ = k := by unfold gAndT; rw [h]; exact h2
theorem ev_or {k : Pr Bool} (h : gp ρ μ = .ok b) (h2 : (if b = true then .ok true else gq ρ μ) = k) : gOrT gp gq ρ μ = k := by unfold gOrT; rw [h]; exact h2
theorem ev_seq (h : g ρ μ = .ok x) (h2 : itmT x = some l) : giSeq g ρ μ = .ok l := by unfold giSeq; rw [h]; show Pr.of (itmT x) = _; rw [h2]; rfl
theorem ev_O {f : List T → Option (List T)} {m : List T} (h : gs ρ μ = .ok l) (h2 : f l = some m) : giO f gs ρ μ = .ok m := by unfold giO; rw [h]; show Pr.of (f l) = _; rw [h2]; rfl
theorem ev_call {f : List T → Pr T} {dts : List T} {k : Pr T} (h : gs ρ μ = .ok l) (h2 : f (l ++ dts) = k) : gCall f dts gs ρ μ = k := by unfold gCall; rw [h]; exact h2
theorem ev_lc {tg : Tg} {gt : Gb} {ge : Gx} {vs : List Nat} {m : List T} (h : gi ρ μ = .ok l) (z : l.length ≤ sizeLine) (h2 : compO tg gt ge (wipeE ρ vs) μ l [] = .ok m) : gLc gi tg gt ge vs ρ μ = .ok (.lst m) := by
  unfold gLc; rw [h]
  show (if l.length ≤ sizeLine then (compO tg gt ge (wipeE ρ vs) μ l []).bind fun r => Pr.ok (T.lst r) else .bad) = _
  rw [if_pos z, h2]; rfl
theorem ev_var {i : Nat} {d : D} (h : ρ[i]? = some (some d)) (h2 : vw μ d = some x) : gVar i ρ μ = .ok x := by unfold gVar; rw [h]; show Pr.of (vw μ d) = _; rw [h2]; rfl
end
/-- a comprehension over what is known -/
theorem compO_mapG {tg : Tg} {ge : Gx} {ρ : En} {μ : Mu} {α : Type} {i o : α → T} : ∀ (l : List α) (acc : List T), (∀ x ∈ l, ∃ ρ', tg (i x) ρ = some ρ' ∧ ge ρ' μ = .ok (o x)) → compO tg gYes ge ρ μ (l.map i) acc = .ok (acc ++ l.map o)
  | [], acc, _ => by show Pr.ok acc = .ok (acc ++ []); rw [List.append_nil]
  | x :: l, acc, h => by
    obtain ⟨ρ', h1, h2⟩ := h x List.mem_cons_self
    show (Pr.of (tg (i x) ρ)).bind _ = _
    rw [h1]
    show ((ge ρ' μ).only.bind fun y => compO tg gYes ge ρ μ (l.map i) (acc ++ [y])) = _
    rw [h2]
    show compO tg gYes ge ρ μ (l.map i) (acc ++ [o x]) = _
    rw [compO_mapG l _ fun y hy => h y (List.mem_cons_of_mem _ hy), List.append_assoc]; rfl
theorem bls_map {α : Type} (f : α → Bool) : ∀ l : List α, bls (l.map fun x => .bl (f x)) = some (l.map f)
  | [] => rfl
  | x :: l => by show (bls _).map _ = _; rw [bls_map f l]; rfl
/-! ### walks of what is a tree: the store may change in the loop -/
def wPIt (g : Ga) : WIt := fun ρ μ Q E => (g ρ μ).run (fun ts => Q (ts.map .t) (fun _ => True) μ) fun e => E e μ
section
variable {X : Cx} {W : WX} {a b tg e : Expr} {p pos : Pos} {g : Gx} {gs : Ga}
theorem zit_seq (he : GE X W e g) : ZI X W tg e (wPIt (giSeq g)) :=
  (zi_seq he.z).imp fun ρ μ Q E q => Pr.run_mono (Pr.run_bind q) (fun t h => by
    obtain ⟨l, h1, h2⟩ := Pr.run_of h
    exact ⟨_, _, .inl (itmT_itm h1 μ), h2⟩) fun _ h => h
theorem zit_rg1 (hm : X.mg "range" = none) (ha : GA X W [a] gs) (hg : Gl X "range" := by rfl) (hs : starEach [a] X.env = [(false, eval a X.env)] := by rfl) : ZI X W tg (.Call (.Name "range" p) [a] [] pos) (wPIt (giO ints1 gs)) :=
  (zi_rg1 hm ha.z hg hs).imp fun ρ μ Q E q => Pr.run_mono (Pr.run_bind q) (fun l h => by
    obtain ⟨m, h1, h2⟩ := Pr.run_of h
    match l, h1 with
    | [.int j], h1 =>
      have h1' : (if j < 2 ^ 62 ∧ -(2 ^ 62) ≤ j then some ((List.range j.toNat).map fun i => T.int (i : Nat)) else none) = some m := h1
      by_cases z : j < 2 ^ 62 ∧ -(2 ^ 62) ≤ j
      · rw [if_pos z] at h1'; cases h1'
        refine ⟨j, rfl, z.1, z.2, ?_⟩
        rwa [List.map_map] at h2
      · rw [if_neg z] at h1'; cases h1') fun _ h => h
end
end Zy
set_option Elab.async false
set_option linter.all false
set_option maxRecDepth 100000
set_option maxHeartbeats 400000
/-! ZO: code that changes the store, as functions: expressions, arguments, tests. -/
namespace Zy
open PySem PySem.Spec PyProof.Rows L2
inductive Sr (α : Type) where
  | bad | ok (a : α) (μ : Mu) | er (e : Err) (μ : Mu)
def Sr.bind {α β : Type} : Sr α → (α → Mu → Sr β) → Sr β
  | .bad, _ => .bad
  | .ok a μ, f => f a μ
  | .er e μ, _ => .er e μ
def Sr.of {α : Type} (o : Option α) (μ : Mu) : Sr α := match o with
  | none => .bad
  | some a => .ok a μ
def Sr.run {α : Type} (x : Sr α) (Q : α → Mu → Prop) (E : EK) : Prop := match x with
  | .bad => False
  | .ok a μ => Q a μ
  | .er e μ => E e μ
def Sr.only {α : Type} : Sr α → Sr α
  | .ok a μ => .ok a μ
  | _ => .bad
section
variable {α β : Type} {x : Sr α} {f : α → Mu → Sr β} {Q Q' : α → Mu → Prop} {R : β → Mu → Prop} {E E' : EK} {μ : Mu}
theorem Sr.run_bind (h : (x.bind f).run R E) : x.run (fun a μ => (f a μ).run R E) E := by cases x <;> exact h
theorem Sr.run_of {o : Option α} (h : (Sr.of o μ).run Q E) : ∃ a, o = some a ∧ Q a μ := by
  cases o with
  | none => exact h.elim
  | some a => exact ⟨a, rfl, h⟩
theorem Sr.run_mono (h : x.run Q E) (q : ∀ a μ, Q a μ → Q' a μ) (e : ∀ a μ, E a μ → E' a μ) : x.run Q' E' := by
  cases x with
  | bad => exact h
  | ok a μ => exact q a μ h
  | er a μ => exact e a μ h
theorem Sr.run_only (h : x.only.run Q E) : x.run Q E' := by
  cases x with
  | bad => exact h
  | ok a => exact h
  | er e => exact (show False from h).elim
end
abbrev Sx := En → Mu → Sr D
abbrev Sb := En → Mu → Sr Bool
abbrev Sa := En → Mu → Sr (List D)
def wM (g : Sx) : WEx := fun ρ μ Q E => (g ρ μ).run Q E
def wMT (g : Sb) : WTs := fun ρ μ Q E => (g ρ μ).run Q E
def wMA (g : Sa) : WAr := fun ρ μ Q E => (g ρ μ).run Q E
structure ME (X : Cx) (W : WX) (e : Expr) (g : Sx) : Prop where
  z : ZE X W e (wM g)
structure MT (X : Cx) (W : WX) (e : Expr) (g : Sb) : Prop where
  z : ZT X W e (wMT g)
structure MA (X : Cx) (W : WX) (es : List Expr) (g : Sa) : Prop where
  z : ZA X W es (wMA g)
section
variable {X : Cx} {W : WX} {e a b c : Expr} {es : List Expr} {pos p p2 : Pos} {g ga gb : Sx} {gs : Sa}
def mP (g : Gx) : Sx := fun ρ μ => match g ρ μ with
  | .ok t => .ok (.t t) μ
  | .er e => .er e μ
  | .bad => .bad
theorem me_p {g : Gx} (h : GE X W e g) : ME X W e (mP g) := ⟨h.z.imp fun ρ μ Q E q => by
  unfold wM mP at q
  unfold wP
  cases e1 : g ρ μ <;> rw [e1] at q <;> exact q⟩
def mC (t : T) : Sx := fun _ μ => .ok (.t t) μ
theorem me_c {t : T} (h : ZE X W e (wC t)) : ME X W e (mC t) := ⟨h.imp fun ρ μ Q E q => q⟩
def mVar (i : Nat) : Sx := fun ρ μ => match ρ[i]? with
  | some (some d) => .ok d μ
  | _ => .bad
theorem me_var (i : Nat) {x : Str} (hN : X.N[i]? = some x := by rfl) (hv : Vis X.env.scope x := by first | exact Or.inl rfl | exact Or.inr (Or.inl rfl) | exact Or.inr (Or.inr rfl)) (hd : (x == ("__debug__" : Str)) = false := by decide)
    (hcd : (x == ("__classdict__" : Str)) = false := by decide) : ME X W (.Name x pos) (mVar i) :=
  ⟨(ze_var i hN hv hd hcd).imp fun ρ μ Q E q => by
    have q' : (match ρ[i]? with | some (some d) => Sr.ok d μ | _ => .bad).run Q E := q
    cases h : ρ[i]? with
    | none => rw [h] at q'; exact q'.elim
    | some o =>
      rw [h] at q'
      cases o with
      | none => exact q'.elim
      | some d => exact ⟨d, h, q'⟩⟩
def m1 (f : O1) (ga : Sx) : Sx := fun ρ μ => (ga ρ μ).bind fun d μ1 => .of ((vw μ1 d).bind fun t => (f t).map D.t) μ1
def m2 (f : O2) (ga gb : Sx) : Sx := fun ρ μ => (ga ρ μ).bind fun d μ1 => (gb ρ μ1).bind fun d' μ2 => .of ((vw μ2 d).bind fun t => (vw μ2 d').bind fun t' => (f t t').map D.t) μ2
def mN (f : ON) (gs : Sa) : Sx := fun ρ μ => (gs ρ μ).bind fun ds μ1 => .of ((vws μ1 ds).bind fun ts => (f ts).map D.t) μ1
theorem m1_imp {f : O1} {ρ : En} {μ : Mu} {Q : D → Mu → Prop} {E : EK} (q : wM (m1 f ga) ρ μ Q E) : wOp1 (fo1 f) (wM ga) ρ μ Q E :=
  Sr.run_mono (Sr.run_bind q) (fun d μ1 h => by
    obtain ⟨r, h1, h2⟩ := Sr.run_of h
    obtain ⟨t, h3, h4⟩ := bind_some h1
    obtain ⟨u, h5, rfl⟩ := map_some h4
    exact ⟨t, h3, u, h5, h2⟩) fun _ _ h => h
theorem m2_imp {f : O2} {ρ : En} {μ : Mu} {Q : D → Mu → Prop} {E : EK} (q : wM (m2 f ga gb) ρ μ Q E) : wOp2 (fo2 f) (wM ga) (wM gb) ρ μ Q E :=
  Sr.run_mono (Sr.run_bind q) (fun d μ1 h => Sr.run_mono (Sr.run_bind h) (fun d' μ2 h => by
    obtain ⟨r, h1, h2⟩ := Sr.run_of h
    obtain ⟨t, h3, h4⟩ := bind_some h1
    obtain ⟨t', h5, h6⟩ := bind_some h4
    obtain ⟨u, h7, rfl⟩ := map_some h6
    exact ⟨t, t', h3, h5, u, h7, h2⟩) fun _ _ h => h) fun _ _ h => h
theorem mN_imp {f : ON} {ρ : En} {μ : Mu} {Q : D → Mu → Prop} {E : EK} (q : wM (mN f gs) ρ μ Q E) : wOpN (foN f) (wMA gs) ρ μ Q E :=
  Sr.run_mono (Sr.run_bind q) (fun d μ1 h => by
    obtain ⟨r, h1, h2⟩ := Sr.run_of h
    obtain ⟨t, h3, h4⟩ := bind_some h1
    obtain ⟨u, h5, rfl⟩ := map_some h4
    exact ⟨t, h3, u, h5, h2⟩) fun _ _ h => h
theorem me_un {op : UnaryOp} {r : V → Hp → VK → Prop} {f : O1} (ho : UnR X (unaryOp op) r) (hz : Z1 X.K r (fo1 f)) (ha : ME X W a ga) : ME X W (.UnaryOp op a pos) (m1 f ga) := ⟨(ze_un ho hz ha.z).imp fun ρ μ Q E q => m1_imp q⟩
theorem me_op {op : Operator} {r : R2} {f : O2} (ho : OpR X (binaryOp op) r) (hz : Z2 X.K r (fo2 f)) (ha : ME X W a ga) (hb : ME X W b gb) : ME X W (.BinOp a op b pos) (m2 f ga gb) := ⟨(ze_op ho hz ha.z hb.z).imp fun ρ μ Q E q => m2_imp q⟩
theorem me_cmp {op : CmpOp} {r : R2} {f : O2} (ho : OpR X (compareOp op) r) (hz : Z2 X.K r (fo2 f)) (ha : ME X W a ga) (hb : ME X W b gb) (hm : behindInMarks op b = false := by rfl) : ME X W (.Compare a [op] [b] pos) (m2 f ga gb) := ⟨(ze_cmp ho hz ha.z hb.z hm).imp fun ρ μ Q E q => m2_imp q⟩
/-- an item, of a tree or of a thing of the store -/
def mIx (ga gb : Sx) : Sx := fun ρ μ => (ga ρ μ).bind fun d μ1 => (gb ρ μ1).bind fun d' μ2 => .of (match d' with
  | .t (.int k) => (itS μ2 d).bind fun l => atI l k
  | _ => none) μ2
theorem me_ix (ha : ME X W a ga) (hb : ME X W b gb) (hs : PlainIx b := by exact fun _ _ => rfl) : ME X W (.Subscript a b pos) (mIx ga gb) :=
  ⟨(ze_item ha.z hb.z hs).imp fun ρ μ Q E q => Sr.run_mono (Sr.run_bind q) (fun d μ1 h => Sr.run_mono (Sr.run_bind h) (fun d' μ2 h => by
    obtain ⟨r, h1, h2⟩ := Sr.run_of h
    match d', h1 with
    | .t (.int k), h1 =>
      obtain ⟨l, h3, h4⟩ := bind_some h1
      exact ⟨k, l, r, rfl, h3, h4, h2⟩) fun _ _ h => h) fun _ _ h => h⟩
/-- items of texts and the like, by trees -/
theorem me_ixT {r : R2} {f : O2} (hr : IxR X r) (hz : Z2 X.K r (fo2 f)) (ha : ME X W a ga) (hb : ME X W b gb) (hs : PlainIx b := by exact fun _ _ => rfl) : ME X W (.Subscript a b pos) (m2 f ga gb) := ⟨(ze_ix hr hz ha.z hb.z hs).imp fun ρ μ Q E q => m2_imp q⟩
/-! ### arguments -/
def mNil : Sa := fun _ μ => .ok [] μ
def mCons (ga : Sx) (gs : Sa) : Sa := fun ρ μ => (ga ρ μ).bind fun x μ1 => (gs ρ μ1).bind fun l μ2 => .ok (x :: l) μ2
theorem ma_nil : MA X W [] mNil := ⟨za_nil.imp fun ρ μ Q E q => q⟩
theorem ma_cons (ha : ME X W e g) (hr : MA X W es gs) (hs : starEach (e :: es) X.env = (false, eval e X.env) :: starEach es X.env := by rfl) : MA X W (e :: es) (mCons g gs) :=
  ⟨(za_cons ha.z hr.z hs).imp fun ρ μ Q E q => Sr.run_mono (Sr.run_bind q) (fun t μ1 h => Sr.run_mono (Sr.run_bind h) (fun l μ2 h => h) fun _ _ h => h) fun _ _ h => h⟩
theorem me_callB {x : Str} {id : String} {r : List V → Hp → VK → Prop} {f : ON} (hc : CallR X (.builtin id) r) (hz : ZN X.K r (foN f)) (hm : X.mg x = none) (hv : bootBuiltins x = some (.builtin id)) (ha : MA X W (e :: es) gs) (hg : Gl X x := by rfl) (hn : x ≠ "__name__" := by decide) (hdb : (x == ("__debug__" : Str)) = false := by decide)
    (he : starEach (e :: es) X.env = (false, eval e X.env) :: starEach es X.env := by rfl) (hpl : (backTo pos (starEach es X.env)).any (·.1) = false := by rfl) : ME X W (.Call (.Name x p) (e :: es) [] pos) (mN f gs) :=
  ⟨(ze_callB hc hz hm hv ha.z hg hn hdb he hpl).imp fun ρ μ Q E q => mN_imp q⟩
theorem me_callTy {x : Str} {T' : String} {r : List V → Hp → VK → Prop} {f : ON} (hc : CallR X (.type T') r) (hz : ZN X.K r (foN f)) (hm : X.mg x = none) (hv : bootBuiltins x = some (.type T')) (ha : MA X W (e :: es) gs) (hg : Gl X x := by rfl) (hn : x ≠ "__name__" := by decide) (hdb : (x == ("__debug__" : Str)) = false := by decide)
    (he : starEach (e :: es) X.env = (false, eval e X.env) :: starEach es X.env := by rfl) (hpl : (backTo pos (starEach es X.env)).any (·.1) = false := by rfl) : ME X W (.Call (.Name x p) (e :: es) [] pos) (mN f gs) :=
  ⟨(ze_callTy hc hz hm hv ha.z hg hn hdb he hpl).imp fun ρ μ Q E q => mN_imp q⟩
/-! ### displays -/
/-- a list as a tree -/
def mLst (gs : Sa) : Sx := fun ρ μ => (gs ρ μ).bind fun ds μ1 => if ds.length ≤ sizeLine then .of ((unT ds).map fun l => .t (.lst l)) μ1 else .bad
/-- .. in the store -/
def mLstR (gs : Sa) : Sx := fun ρ μ => (gs ρ μ).bind fun ds μ1 => if ds.length ≤ sizeLine then .ok (.r μ1.length) (μ1 ++ [.lst ds]) else .bad
def mTup (gs : Sa) : Sx := fun ρ μ => (gs ρ μ).bind fun ds μ1 => if ds.length ≤ sizeLine then (match unT ds with
  | some l => .ok (.t (.tup l)) μ1
  | none => .ok (.r μ1.length) (μ1 ++ [.tup ds])) else .bad
theorem me_lst (ha : MA X W es gs) : ME X W (.List es pos) (mLst gs) :=
  ⟨(ze_lst ha.z).imp fun ρ μ Q E q => Sr.run_mono (Sr.run_bind q) (fun l μ1 h => by
    by_cases z : l.length ≤ sizeLine
    · have h' : (if l.length ≤ sizeLine then Sr.of ((unT l).map fun l => D.t (.lst l)) μ1 else .bad).run Q E := h
      rw [if_pos z] at h'
      obtain ⟨r, h1, h2⟩ := Sr.run_of h'
      obtain ⟨m, h3, rfl⟩ := map_some h1
      exact ⟨z, .inl ⟨m, h3, h2⟩⟩
    · have h' : (if l.length ≤ sizeLine then Sr.of ((unT l).map fun l => D.t (.lst l)) μ1 else .bad).run Q E := h
      rw [if_neg z] at h'; exact h'.elim) fun _ _ h => h⟩
theorem me_lstR (ha : MA X W es gs) : ME X W (.List es pos) (mLstR gs) :=
  ⟨(ze_lst ha.z).imp fun ρ μ Q E q => Sr.run_mono (Sr.run_bind q) (fun l μ1 h => by
    by_cases z : l.length ≤ sizeLine
    · have h' : (if l.length ≤ sizeLine then Sr.ok (D.r μ1.length) (μ1 ++ [MO.lst l]) else .bad).run Q E := h
      rw [if_pos z] at h'
      exact ⟨z, .inr h'⟩
    · have h' : (if l.length ≤ sizeLine then Sr.ok (D.r μ1.length) (μ1 ++ [MO.lst l]) else .bad).run Q E := h
      rw [if_neg z] at h'; exact h'.elim) fun _ _ h => h⟩
theorem me_tup {x1} (ha : MA X W es gs) : ME X W (.Tuple es x1 pos) (mTup gs) :=
  ⟨(ze_tup ha.z).imp fun ρ μ Q E q => Sr.run_mono (Sr.run_bind q) (fun l μ1 h => by
    have h' : (if l.length ≤ sizeLine then (match unT l with | some l => Sr.ok (D.t (T.tup l)) μ1 | none => .ok (.r μ1.length) (μ1 ++ [MO.tup l])) else .bad).run Q E := h
    by_cases z : l.length ≤ sizeLine
    · rw [if_pos z] at h'
      cases e1 : unT l with
      | none => rw [e1] at h'; exact ⟨z, .inr h'⟩
      | some m => rw [e1] at h'; exact ⟨z, .inl ⟨m, rfl, h'⟩⟩
    · rw [if_neg z] at h'; exact h'.elim) fun _ _ h => h⟩
/-! ### tests -/
def mTru (ga : Sx) : Sb := fun ρ μ => (ga ρ μ).bind fun d μ1 => .of ((vw μ1 d).bind truT) μ1
theorem mt_tru (ha : ME X W e ga) (he : ∀ whole, isTrue e X.env whole = (do let v ← whole; standAt e.pos; holding [v] (truthy v)) := by intro _; rfl) : MT X W e (mTru ga) :=
  ⟨(zt_tru ha.z he).imp fun ρ μ Q E q => Sr.run_mono (Sr.run_bind q) (fun t μ1 h => by
    obtain ⟨r, h1, h2⟩ := Sr.run_of h
    obtain ⟨t, h3, h4⟩ := bind_some h1
    exact ⟨t, r, h3, h4, h2⟩) fun _ _ h => h⟩
def blD : D → Option Bool
  | .t (.bl b) => some b
  | _ => none
def mBl (ga : Sx) : Sb := fun ρ μ => (ga ρ μ).bind fun d μ1 => .of (blD d) μ1
theorem blD_ok {d : D} {b : Bool} (h : blD d = some b) : d = .t (.bl b) := by
  cases d with
  | t t => cases t <;> first | (cases h; rfl) | exact nomatch h
  | r i => cases h
theorem mbl_imp {Q : Bool → Mu → Prop} {E : EK} {ρ : En} {μ : Mu} (q : wMT (mBl ga) ρ μ Q E) : wTst (wM ga) ρ μ Q E :=
  Sr.run_mono (Sr.run_bind q) (fun t μ1 h => by
    obtain ⟨r, h1, h2⟩ := Sr.run_of h
    exact ⟨r, blD_ok h1, h2⟩) fun _ _ h => h
theorem mt_cmp {op : CmpOp} {r : R2} {f : O2} (ho : OpR X (compareOp op) r) (hz : Z2 X.K r (fo2 f)) (ha : ME X W a ga) (hb : ME X W b gb) (hm : behindInMarks op b = false := by rfl) : MT X W (.Compare a [op] [b] pos) (mBl (m2 f ga gb)) :=
  ⟨(zt_cmp ho hz ha.z hb.z hm).imp fun ρ μ Q E q => m2_imp (Q := fun d μ' => ∃ k, d = .t (.bl k) ∧ Q k μ') (mbl_imp q)⟩
def mAndT (ga gb : Sb) : Sb := fun ρ μ => (ga ρ μ).bind fun k μ1 => if k = true then gb ρ μ1 else .ok false μ1
def mOrT (ga gb : Sb) : Sb := fun ρ μ => (ga ρ μ).bind fun k μ1 => if k = true then .ok true μ1 else gb ρ μ1
def mNotT (ga : Sb) : Sb := fun ρ μ => (ga ρ μ).bind fun k μ1 => .ok (!k) μ1
structure MW (X : Cx) (W : WX) (e : Expr) (g : Sb) : Prop where
  z : ZW X W e (wMT g)
section
variable {gp gq : Sb} {rest : List Expr}
theorem MW.t (h : MW X W e gp) : MT X W e gp := ⟨h.z.zt⟩
theorem mw_and1 (ha : MT X W a gp) : MW X W (.BoolOp .And [a] pos) gp := ⟨zw_and1 ha.z⟩
theorem mw_or1 (ha : MT X W a gp) : MW X W (.BoolOp .Or [a] pos) gp := ⟨zw_or1 ha.z⟩
theorem mw_and (ha : MT X W a gp) (hb : MW X W (.BoolOp .And (b :: rest) pos) gq) : MW X W (.BoolOp .And (a :: b :: rest) pos) (mAndT gp gq) :=
  ⟨(zw_and ha.z hb.z).imp fun ρ μ Q E q => Sr.run_mono (Sr.run_bind q) (fun k μ1 h => by cases k <;> exact h) fun _ _ h => h⟩
theorem mw_or (ha : MT X W a gp) (hb : MW X W (.BoolOp .Or (b :: rest) pos) gq) : MW X W (.BoolOp .Or (a :: b :: rest) pos) (mOrT gp gq) :=
  ⟨(zw_or ha.z hb.z).imp fun ρ μ Q E q => Sr.run_mono (Sr.run_bind q) (fun k μ1 h => by cases k <;> exact h) fun _ _ h => h⟩
theorem mt_not (ha : MT X W a gp) : MT X W (.UnaryOp .Not a pos) (mNotT gp) := ⟨(zt_not ha.z).imp fun ρ μ Q E q => Sr.run_mono (Sr.run_bind q) (fun k μ1 h => h) fun _ _ h => h⟩
def mIf (gc : Sb) (ga gb : Sx) : Sx := fun ρ μ => (gc ρ μ).bind fun k μ1 => if k = true then ga ρ μ1 else gb ρ μ1
theorem me_ifExp (hc : MT X W c gp) (ha : ME X W a ga) (hb : ME X W b gb) : ME X W (.IfExp c a b pos) (mIf gp ga gb) :=
  ⟨(ze_ifExp hc.z ha.z hb.z).imp fun ρ μ Q E q => Sr.run_mono (Sr.run_bind q) (fun k μ1 h => by cases k <;> exact h) fun _ _ h => h⟩
def mAndV (ga gb : Sx) : Sx := fun ρ μ => (ga ρ μ).bind fun d μ1 => (Sr.of ((vw μ1 d).bind truT) μ1).bind fun k μ1 => if k = true then gb ρ μ1 else .ok d μ1
def mOrV (ga gb : Sx) : Sx := fun ρ μ => (ga ρ μ).bind fun d μ1 => (Sr.of ((vw μ1 d).bind truT) μ1).bind fun k μ1 => if k = true then .ok d μ1 else gb ρ μ1
def mNotV (ga : Sx) : Sx := fun ρ μ => (ga ρ μ).bind fun d μ1 => (Sr.of ((vw μ1 d).bind truT) μ1).bind fun k μ1 => .ok (.t (.bl !k)) μ1
theorem me_one {op} (h : ME X W a ga) : ME X W (.BoolOp op [a] pos) ga := ⟨ze_one h.z⟩
theorem tru_of {μ1 : Mu} {d : D} {f : Bool → Mu → Sr D} {Q : D → Mu → Prop} {E : EK} (h : ((Sr.of ((vw μ1 d).bind truT) μ1).bind f).run Q E) : ∃ t k, vw μ1 d = some t ∧ truT t = some k ∧ (f k μ1).run Q E := by
  obtain ⟨k, h1, h2⟩ := Sr.run_of (Sr.run_bind h)
  obtain ⟨t, h3, h4⟩ := bind_some h1
  exact ⟨t, k, h3, h4, h2⟩
theorem me_and (ha : ME X W a ga) (hb : ME X W (.BoolOp .And (b :: rest) pos) gb) : ME X W (.BoolOp .And (a :: b :: rest) pos) (mAndV ga gb) :=
  ⟨(ze_and ha.z hb.z).imp fun ρ μ Q E q => Sr.run_mono (Sr.run_bind q) (fun d μ1 h => by obtain ⟨t, k, h1, h2, h3⟩ := tru_of h; exact ⟨t, k, h1, h2, by cases k <;> exact h3⟩) fun _ _ h => h⟩
theorem me_or (ha : ME X W a ga) (hb : ME X W (.BoolOp .Or (b :: rest) pos) gb) : ME X W (.BoolOp .Or (a :: b :: rest) pos) (mOrV ga gb) :=
  ⟨(ze_or ha.z hb.z).imp fun ρ μ Q E q => Sr.run_mono (Sr.run_bind q) (fun d μ1 h => by obtain ⟨t, k, h1, h2, h3⟩ := tru_of h; exact ⟨t, k, h1, h2, by cases k <;> exact h3⟩) fun _ _ h => h⟩
theorem me_not (ha : ME X W a ga) : ME X W (.UnaryOp .Not a pos) (mNotV ga) :=
  ⟨(ze_not ha.z).imp fun ρ μ Q E q => Sr.run_mono (Sr.run_bind q) (fun d μ1 h => by obtain ⟨t, k, h1, h2, h3⟩ := tru_of h; exact ⟨t, k, h1, h2, h3⟩) fun _ _ h => h⟩
end
/-! ### slices -/
abbrev So := En → Mu → Sr (Option Int)
def wMO (g : So) : WO := fun ρ μ Q E => (g ρ μ).run Q E
structure MOp (X : Cx) (W : WX) (e : Option Expr) (g : So) : Prop where
  z : ZO X W e (wMO g)
def moNone : So := fun _ μ => .ok none μ
def intD : D → Option Int
  | .t (.int i) => some i
  | _ => none
theorem intD_ok {d : D} {i : Int} (h : intD d = some i) : d = .t (.int i) := by
  cases d with
  | t t => cases t <;> first | (cases h; rfl) | exact nomatch h
  | r i => cases h
def moSome (g : Sx) : So := fun ρ μ => (g ρ μ).bind fun d μ1 => .of ((intD d).map some) μ1
theorem mo_none : MOp X W none moNone := ⟨zo_none.imp fun ρ μ Q E h => h⟩
theorem mo_some (h : ME X W e g) : MOp X W (some e) (moSome g) := ⟨(zo_some h.z).imp fun ρ μ Q E q => Sr.run_mono (Sr.run_bind q) (fun d μ1 h => by
  obtain ⟨r, h1, h2⟩ := Sr.run_of h
  obtain ⟨i, h3, rfl⟩ := map_some h1
  exact ⟨i, intD_ok h3, h2⟩) fun _ _ h => h⟩
def mSl (ga : Sx) (gl gh : So) : Sx := fun ρ μ => (ga ρ μ).bind fun d μ1 => (gl ρ μ1).bind fun lo μ2 => (gh ρ μ2).bind fun hi μ3 => .of ((vw μ3 d).bind fun t => (slT lo hi t).map D.t) μ3
theorem me_slice {lo hi : Option Expr} {gl gh : So} (ha : ME X W a ga) (hl : MOp X W lo gl) (hh : MOp X W hi gh) : ME X W (.Subscript a (.Slice lo hi none p2) pos) (mSl ga gl gh) :=
  ⟨(ze_slice sl_list z_sl ha.z hl.z hh.z).imp fun ρ μ Q E q => Sr.run_mono (Sr.run_bind q) (fun d μ1 h => Sr.run_mono (Sr.run_bind h) (fun lo μ2 h => Sr.run_mono (Sr.run_bind h) (fun hi μ3 h => by
    obtain ⟨r, h1, h2⟩ := Sr.run_of h
    obtain ⟨t, hd, h5⟩ := bind_some h1
    obtain ⟨u, h6, rfl⟩ := map_some h5
    obtain ⟨l, e1, h3⟩ := bind_some (show (lstT t).bind (fun l => (szL l).map fun l => T.lst (cutT l lo hi)) = some u from h6)
    obtain ⟨m, e2, rfl⟩ := map_some h3
    obtain ⟨rfl, z⟩ := szL_ok e2
    exact ⟨t, hd, m, e1, z, h2⟩) fun _ _ h => h) fun _ _ h => h) fun _ _ h => h⟩
end
end Zy
set_option Elab.async false
set_option linter.all false
set_option maxRecDepth 100000
set_option maxHeartbeats 400000
/-! ZP: code that changes the store, as functions: walks, comprehensions, statements. -/
namespace Zy
open PySem PySem.Spec PyProof.Rows L2
/-! ### what is walked -/
/-- what of the store has to stay while it is walked -/
abbrev Ck := Option (Nat × List D)
def ckP : Ck → Mu → Prop
  | none, _ => True
  | some (i, l), μ => μ[i]? = some (.lst l)
abbrev Sw := En → Mu → Sr (List D × Ck)
def wMI (g : Sw) : WIt := fun ρ μ Q E => (g ρ μ).run (fun p μ' => Q p.1 (ckP p.2) μ') E
structure MI (X : Cx) (W : WX) (tg iter : Expr) (g : Sw) : Prop where
  z : ZI X W tg iter (wMI g)
section
variable {X : Cx} {W : WX} {e a b c tg iter elt : Expr} {es ifs : List Expr} {pos p p2 spos : Pos} {g ga gb : Sx} {gs : Sa}
def itmD (μ : Mu) : D → Option (List D × Ck)
  | .t t => (itmT t).map fun l => (l.map .t, none)
  | .r i => match μ[i]? with
    | some (.lst ds) => some (ds, some (i, ds))
    | some (.tup ds) => some (ds, none)
    | _ => none
theorem itmD_ok {μ : Mu} {d : D} {q : List D × Ck} (h : itmD μ d = some q) : ItmS μ d q.1 (ckP q.2) := by
  cases d with
  | t t =>
    obtain ⟨l, h1, rfl⟩ := map_some (show (itmT t).map (fun l => (l.map D.t, none)) = some q from h)
    exact .inl (itmT_itm h1 μ)
  | r i =>
    have h' : (match μ[i]? with | some (MO.lst ds) => some (ds, some (i, ds)) | some (.tup ds) => some (ds, none) | _ => none) = some q := h
    cases em : μ[i]? with
    | none => rw [em] at h'; cases h'
    | some m =>
      rw [em] at h'
      cases m with
      | lst ds => cases h'; exact .inr ⟨i, rfl, em, rfl⟩
      | tup ds => cases h'; exact .inl ⟨em, rfl⟩
      | _ => cases h'
def miSeq (g : Sx) : Sw := fun ρ μ => (g ρ μ).bind fun d μ1 => .of (itmD μ1 d) μ1
theorem mi_seq (he : ME X W e g) : MI X W tg e (miSeq g) :=
  ⟨(zi_seq he.z).imp fun ρ μ Q E q => Sr.run_mono (Sr.run_bind q) (fun d μ1 h => by
    obtain ⟨r, h1, h2⟩ := Sr.run_of h
    exact ⟨_, _, itmD_ok h1, h2⟩) fun _ _ h => h⟩
/-- of trees alone -/
def miO (f : List T → Option (List T)) (gs : Sa) : Sw := fun ρ μ => (gs ρ μ).bind fun ds μ1 => .of ((unT ds).bind fun ts => (f ts).map fun l => (l.map .t, none)) μ1
theorem miO_run {f : List T → Option (List T)} {μ1 : Mu} {ds : List D} {Q : List D × Ck → Mu → Prop} {E : EK} (h : (Sr.of ((unT ds).bind fun ts => (f ts).map fun l => ((l.map D.t, none) : List D × Ck)) μ1).run Q E) : ∃ ts l, ds = ts.map .t ∧ f ts = some l ∧ Q (l.map .t, none) μ1 := by
  obtain ⟨r, h1, h2⟩ := Sr.run_of h
  obtain ⟨ts, h3, h4⟩ := bind_some h1
  obtain ⟨l, h5, rfl⟩ := map_some h4
  exact ⟨ts, l, unT_map h3, h5, h2⟩
theorem mi_rg1 (hm : X.mg "range" = none) (ha : MA X W [a] gs) (hg : Gl X "range" := by rfl) (hs : starEach [a] X.env = [(false, eval a X.env)] := by rfl) : MI X W tg (.Call (.Name "range" p) [a] [] pos) (miO ints1 gs) :=
  ⟨(zi_rg1 hm ha.z hg hs).imp fun ρ μ Q E q => Sr.run_mono (Sr.run_bind q) (fun l μ1 h => by
    obtain ⟨ts, m, rfl, h1, h2⟩ := miO_run h
    match ts, h1 with
    | [.int j], h1 =>
      have h1' : (if j < 2 ^ 62 ∧ -(2 ^ 62) ≤ j then some ((List.range j.toNat).map fun i => T.int (i : Nat)) else none) = some m := h1
      by_cases z : j < 2 ^ 62 ∧ -(2 ^ 62) ≤ j
      · rw [if_pos z] at h1'; cases h1'
        refine ⟨j, rfl, z.1, z.2, ?_⟩
        rwa [List.map_map] at h2
      · rw [if_neg z] at h1'; cases h1') fun _ _ h => h⟩
theorem mi_rg2 (hm : X.mg "range" = none) (ha : MA X W [a, b] gs) (hg : Gl X "range" := by rfl) (hs : starEach [a, b] X.env = [(false, eval a X.env), (false, eval b X.env)] := by rfl) (hs2 : starEach [b] X.env = [(false, eval b X.env)] := by rfl) : MI X W tg (.Call (.Name "range" p) [a, b] [] pos) (miO ints2 gs) :=
  ⟨(zi_rg2 hm ha.z hg hs hs2).imp fun ρ μ Q E q => Sr.run_mono (Sr.run_bind q) (fun l μ1 h => by
    obtain ⟨ts, m, rfl, h1, h2⟩ := miO_run h
    match ts, h1 with
    | [.int i, .int j], h1 =>
      have h1' : (if -(2 ^ 62) ≤ i ∧ i < 2 ^ 62 ∧ -(2 ^ 62) ≤ j ∧ j < 2 ^ 62 then some ((List.range (j - i).toNat).map fun k => T.int (i + (k : Nat))) else none) = some m := h1
      by_cases z : -(2 ^ 62) ≤ i ∧ i < 2 ^ 62 ∧ -(2 ^ 62) ≤ j ∧ j < 2 ^ 62
      · rw [if_pos z] at h1'; cases h1'
        refine ⟨i, j, rfl, z, ?_⟩
        rwa [List.map_map] at h2
      · rw [if_neg z] at h1'; cases h1') fun _ _ h => h⟩
theorem mi_en {elts : List Expr} {kk : Nat} {tpos : Pos} (hm : X.mg "enumerate" = none) (ha : MA X W [a] gs) (hg : Gl X "enumerate" := by rfl) (hs : starEach [a] X.env = [(false, eval a X.env)] := by rfl) : MI X W (.Tuple elts kk tpos) (.Call (.Name "enumerate" p) [a] [] pos) (miO enOp gs) :=
  ⟨(zi_en hm ha.z hg hs).imp fun ρ μ Q E q => Sr.run_mono (Sr.run_bind q) (fun l μ1 h => by
    obtain ⟨ts, m, rfl, h1, h2⟩ := miO_run h
    match ts, h1 with
    | [t], h1 =>
      obtain ⟨l, h3, rfl⟩ := map_some (show (itmT t).map (enO 0) = some m from h1)
      exact ⟨.t t, _, _, _, rfl, itmT_itm h3 μ1, enT_of 0 l, h2⟩) fun _ _ h => h⟩
theorem zi_wk {w : WIt} (h : ZI X W tg iter w) {w' : WIt} (f : ∀ ρ μ Q E, w' ρ μ Q E → w ρ μ Q E) : ZI X W tg iter w' := h.imp f
theorem mi_zp {elts : List Expr} {kk : Nat} {tpos : Pos} (hm : X.mg "zip" = none) (ha : MA X W [a, b] gs) (hg : Gl X "zip" := by rfl) (hs : starEach (a :: [b]) X.env = (false, eval a X.env) :: starEach [b] X.env := by rfl) (hpl : (backTo pos (starEach [b] X.env)).any (·.1) = false := by rfl) : MI X W (.Tuple elts kk tpos) (.Call (.Name "zip" p) [a, b] [] pos) (miO zpOp gs) :=
  ⟨(zi_zp hm ha.z hg hs hpl).imp fun ρ μ Q E q => Sr.run_mono (Sr.run_bind q) (fun l μ1 h => by
    obtain ⟨ts, m, rfl, h1, h2⟩ := miO_run h
    match ts, h1 with
    | [t, u], h1 =>
      obtain ⟨l, h3, h4⟩ := bind_some (show (itmT t).bind (fun l => (itmT u).map fun m => zpO l m) = some m from h1)
      obtain ⟨r, h5, rfl⟩ := map_some h4
      refine ⟨.t t, .t u, _, _, _, _, _, rfl, itmT_itm h3 μ1, itmT_itm h5 μ1, zpT_of l r, ?_⟩
      have e : (fun (μ : Mu) => True ∧ True) = fun _ => True := by funext _; simp
      rw [e]
      exact h2) fun _ _ h => h⟩
/-! ### targets -/
abbrev Mg := D → En → Mu → Option (En × Mu)
abbrev Mgs := List D → En → Mu → Option (En × Mu)
def wMG (g : Mg) : WTg := fun d ρ μ Q => ∃ q, g d ρ μ = some q ∧ Q q.1 q.2
def wMGs (g : Mgs) : WTgs := fun ds ρ μ Q => ∃ q, g ds ρ μ = some q ∧ Q q.1 q.2
structure MC (X : Cx) (vs : List Nat) (tg : Expr) (g : Mg) : Prop where
  z : ZC X vs tg (wMG g)
structure MCs (X : Cx) (vs : List Nat) (ts : List Expr) (g : Mgs) : Prop where
  z : ZCs X vs ts (wMGs g)
structure MG (X : Cx) (tg : Expr) (g : Mg) : Prop where
  z : ZG X tg (wMG g)
structure MGs (X : Cx) (ts : List Expr) (g : Mgs) : Prop where
  z : ZGs X ts (wMGs g)
def mgName (i : Nat) : Mg := fun d ρ μ => some (ρ.set i (some d), μ)
def mgNil : Mgs := fun ds ρ μ => match ds with
  | [] => some (ρ, μ)
  | _ => none
def mgCons (a : Mg) (b : Mgs) : Mgs := fun ds ρ μ => match ds with
  | d :: r => (a d ρ μ).bind fun q => b r q.1 q.2
  | [] => none
def mgTup (n : Nat) (b : Mgs) : Mg := fun d ρ μ => (itT μ d).bind fun ds => if ds.length = n then b ds ρ μ else none
theorem mName_imp {i : Nat} {d : D} {ρ : En} {μ : Mu} {Q : En → Mu → Prop} (h : wMG (mgName i) d ρ μ Q) : wgName i d ρ μ Q := by
  obtain ⟨q, h1, h2⟩ := h
  cases h1; exact h2
theorem mNil_imp {ds : List D} {ρ : En} {μ : Mu} {Q : En → Mu → Prop} (h : wMGs mgNil ds ρ μ Q) : wgNil ds ρ μ Q := by
  obtain ⟨q, h1, h2⟩ := h
  cases ds with
  | nil => cases h1; exact ⟨rfl, h2⟩
  | cons x r => cases h1
theorem mCons_imp {ta : Mg} {tb : Mgs} {ds : List D} {ρ : En} {μ : Mu} {Q : En → Mu → Prop} (h : wMGs (mgCons ta tb) ds ρ μ Q) : wgCons (wMG ta) (wMGs tb) ds ρ μ Q := by
  obtain ⟨q, h1, h2⟩ := h
  cases ds with
  | nil => cases h1
  | cons x r =>
    obtain ⟨q1, h3, h4⟩ := bind_some (show (ta x ρ μ).bind (fun q => tb r q.1 q.2) = some q from h1)
    exact ⟨x, r, rfl, q1, h3, q, h4, h2⟩
theorem mTup_imp {n : Nat} {tb : Mgs} {d : D} {ρ : En} {μ : Mu} {Q : En → Mu → Prop} (h : wMG (mgTup n tb) d ρ μ Q) : wgTup n (wMGs tb) d ρ μ Q := by
  obtain ⟨q, h1, h2⟩ := h
  obtain ⟨ds, h3, h4⟩ := bind_some (show (itT μ d).bind (fun ds => if ds.length = n then tb ds ρ μ else none) = some q from h1)
  by_cases z : ds.length = n
  · rw [if_pos z] at h4; exact ⟨ds, h3, z, q, h4, h2⟩
  · rw [if_neg z] at h4; cases h4
theorem ZC.impM {vs : List Nat} {w w' : WTg} (h : ZC X vs tg w) (f : ∀ d ρ μ Q, w' d ρ μ Q → w d ρ μ Q) : ZC X vs tg w' := h.imp f
theorem mc_name (i : Nat) {vs : List Nat} {x : Str} (hN : X.N.Nodup) (hv : i ∈ vs := by decide) (hi : X.N[i]? = some x := by rfl) (hx : Loc X.env.scope x := by first | exact Or.inl rfl | exact Or.inr rfl) (hf : X.fn x = true ∨ X.env.scope.names.lookup x = some .local := by first | exact .inl rfl | exact .inr rfl | assumption) : MC X vs (.Name x pos) (mgName i) := ⟨(zc_name i hN hv hi hx hf).imp fun d ρ μ Q h => mName_imp h⟩
theorem mcs_nil {vs : List Nat} : MCs X vs [] mgNil := ⟨zcs_nil.imp fun d ρ μ Q h => mNil_imp h⟩
theorem mcs_cons {vs : List Nat} {ta : Mg} {tb : Mgs} (h1 : MC X vs e ta) (h2 : MCs X vs es tb) (hs : (assignEach (e :: es) X.env).map (·.2) = assign e X.env :: (assignEach es X.env).map (·.2) := by rfl) : MCs X vs (e :: es) (mgCons ta tb) := ⟨(zcs_cons h1.z h2.z hs).imp fun d ρ μ Q h => mCons_imp h⟩
theorem mc_tup {vs : List Nat} {k n : Nat} {tb : Mgs} (hc : X.calm = true) (h : MCs X vs es tb) (hn : (assignEach es X.env).length = n := by rfl) (hst : (assignEach es X.env).findIdx? (·.1) = none := by rfl) : MC X vs (.Tuple es k pos) (mgTup n tb) := ⟨(zc_tup hc h.z hn hst).imp fun d ρ μ Q h => mTup_imp h⟩
theorem mg_name (i : Nat) {x : Str} (hN : X.N.Nodup) (hi : X.N[i]? = some x := by rfl) (hx : Loc X.env.scope x := by first | exact Or.inl rfl | exact Or.inr rfl) (hf : X.fn x = true ∨ X.env.scope.names.lookup x = some .local := by first | exact .inl rfl | exact .inr rfl | assumption) : MG X (.Name x pos) (mgName i) := ⟨(zg_name i hN hi hx hf).imp fun d ρ μ Q h => mName_imp h⟩
theorem mgs_nil : MGs X [] mgNil := ⟨zgs_nil.imp fun d ρ μ Q h => mNil_imp h⟩
theorem mgs_cons {ta : Mg} {tb : Mgs} (h1 : MG X e ta) (h2 : MGs X es tb) (hs : (assignEach (e :: es) X.env).map (·.2) = assign e X.env :: (assignEach es X.env).map (·.2) := by rfl) : MGs X (e :: es) (mgCons ta tb) := ⟨(zgs_cons h1.z h2.z hs).imp fun d ρ μ Q h => mCons_imp h⟩
theorem mg_tup {k n : Nat} {tb : Mgs} (hc : X.calm = true) (h : MGs X es tb) (hn : (assignEach es X.env).length = n := by rfl) (hst : (assignEach es X.env).findIdx? (·.1) = none := by rfl) : MG X (.Tuple es k pos) (mgTup n tb) := ⟨(zg_tup hc h.z hn hst).imp fun d ρ μ Q h => mTup_imp h⟩
/-- x[i] = v in a list of the store -/
def mgSub (go gi : Sx) : Mg := fun d ρ μ => match go ρ μ with
  | .ok (.r i) μ1 => match gi ρ μ1 with
    | .ok (.t (.int k)) μ2 => match μ2[i]? with
      | some (.lst l) => (ixN l.length k).map fun j => (ρ, μ2.set i (.lst (l.set j d)))
      | _ => none
    | _ => none
  | _ => none
theorem mg_sub {o : Expr} {go gi : Sx} (ho : ME X W0 o go) (hi : ME X W0 e gi) (hs : ∀ v : Value, assign (.Subscript o e pos) X.env v = (do
      let ov ← holding [v] (eval o X.env)
      let iv ← holding [v, ov] (eval e X.env)
      standAt pos
      holding [v, ov, iv] (setItem ov iv v)
      release [v, ov, iv] []) := by intro _; rfl) : MG X (.Subscript o e pos) (mgSub go gi) :=
  ⟨(zg_sub ho.z hi.z hs).imp fun d ρ μ Q ⟨q, h1, h2⟩ => by
    unfold mgSub at h1
    show (go ρ μ).run _ _
    cases e1 : go ρ μ with
    | bad => rw [e1] at h1; cases h1
    | er e μ1 => rw [e1] at h1; cases h1
    | ok d1 μ1 =>
      rw [e1] at h1
      cases d1 with
      | t t => cases h1
      | r i =>
        show (gi ρ μ1).run _ _
        have h1' : (match gi ρ μ1 with | .ok (.t (.int k)) μ2 => (match μ2[i]? with | some (MO.lst l) => (ixN l.length k).map fun j => (ρ, μ2.set i (.lst (l.set j d))) | _ => none) | _ => none) = some q := h1
        cases e2 : gi ρ μ1 with
        | bad => rw [e2] at h1'; cases h1'
        | er e μ2 => rw [e2] at h1'; cases h1'
        | ok d2 μ2 =>
          rw [e2] at h1'
          cases d2 with
          | r j => cases h1'
          | t t =>
            cases t with
            | int k =>
              have h3 : (match μ2[i]? with | some (MO.lst l) => (ixN l.length k).map fun j => (ρ, μ2.set i (.lst (l.set j d))) | _ => none) = some q := h1'
              cases em : μ2[i]? with
              | none => rw [em] at h3; cases h3
              | some m =>
                rw [em] at h3
                cases m with
                | lst l =>
                  obtain ⟨j, h4, rfl⟩ := map_some (show (ixN l.length k).map (fun j => (ρ, μ2.set i (.lst (l.set j d)))) = some q from h3)
                  exact ⟨i, l, k, j, rfl, rfl, em, h4, h2⟩
                | _ => cases h3
            | _ => cases h1'⟩
end
/-! ### comprehensions -/
section
open Classical
noncomputable def compM (c : Ck) (tg : Mg) (gt : Sb) (ge : Sx) (ρ : En) : List D → List D → Mu → Sr (List D)
  | [], acc, μ => if ckP c μ then .ok acc μ else .bad
  | d :: r, acc, μ => if ckP c μ then (match tg d ρ μ with
      | none => .bad
      | some q => (gt q.1 q.2).only.bind fun b μ2 => if b = true then (ge q.1 μ2).only.bind fun y μ3 => compM c tg gt ge ρ r (acc ++ [y]) μ3 else compM c tg gt ge ρ r acc μ2) else .bad
end
noncomputable def mLc (gi : Sw) (tg : Mg) (gt : Sb) (ge : Sx) (vs : List Nat) : Sx := fun ρ μ => (gi ρ μ).bind fun p μ1 => if p.1.length ≤ sizeLine then (compM p.2 tg gt ge (wipeE ρ vs) p.1 [] μ1).bind fun r μ2 => .of ((unT r).map fun l => .t (.lst l)) μ2 else .bad
noncomputable def mLcR (gi : Sw) (tg : Mg) (gt : Sb) (ge : Sx) (vs : List Nat) : Sx := fun ρ μ => (gi ρ μ).bind fun p μ1 => if p.1.length ≤ sizeLine then (compM p.2 tg gt ge (wipeE ρ vs) p.1 [] μ1).bind fun r μ2 => .ok (.r μ2.length) (μ2 ++ [.lst r]) else .bad
def mYes : Sb := fun _ μ => .ok true μ
theorem compM_red {c : Ck} {tg : Mg} {gt : Sb} {ge : Sx} {ρ : En} {Q : List D → Mu → Prop} {E : EK} : ∀ {l acc : List D} {μ : Mu}, (compM c tg gt ge ρ l acc μ).run Q E → wComp (ckP c) (wMG tg) (wMT gt) (wM ge) ρ Q l acc μ
  | [], acc, μ, h => by
    unfold compM at h
    by_cases z : ckP c μ
    · rw [if_pos z] at h; exact ⟨z, h⟩
    · rw [if_neg z] at h; exact h.elim
  | d :: r, acc, μ, h => by
    unfold compM at h
    by_cases z : ckP c μ
    · rw [if_pos z] at h
      refine ⟨z, ?_⟩
      cases e : tg d ρ μ with
      | none => rw [e] at h; exact h.elim
      | some q =>
        rw [e] at h
        refine ⟨q, e, ?_⟩
        refine Sr.run_mono (Sr.run_only (E' := wEk) (Sr.run_bind h)) (fun b μ2 hb => ?_) fun _ _ h => h
        cases b with
        | true =>
          show (ge q.1 μ2).run (fun y μ3 => wComp (ckP c) (wMG tg) (wMT gt) (wM ge) ρ Q r (acc ++ [y]) μ3) wEk
          exact Sr.run_mono (Sr.run_only (E' := wEk) (Sr.run_bind hb)) (fun y μ3 hy => compM_red hy) fun _ _ h => h
        | false => exact compM_red hb
    · rw [if_neg z] at h; exact h.elim
section
variable {X : Cx} {W : WX} {e a b c tg iter elt : Expr} {es ifs : List Expr} {pos p p2 spos : Pos} {g ga gb : Sx} {gs : Sa} {gi : Sw} {tgf : Mg} {gt : Sb} {ge : Sx} {scope : Scope} {own : List (Str × Nat)}
structure MTs (X : Cx) (W : WX) (ifs : List Expr) (g : Sb) : Prop where
  z : ZTs X W ifs (wMT g)
theorem mts_nil : MTs X W [] mYes := ⟨zts_nil.imp fun ρ μ Q E q => q⟩
theorem mts_one (h : MT X W e gt) : MTs X W [e] gt := ⟨zts_one h.z⟩
theorem lcM_imp {vs : List Nat} {ρ : En} {μ : Mu} {Q : D → Mu → Prop} {E : EK} (h : wM (mLc gi tgf gt ge vs) ρ μ Q E) : wLc (wMI gi) (wMG tgf) (wMT gt) (wM ge) vs ρ μ Q E :=
  Sr.run_mono (Sr.run_bind h) (fun p μ1 h => by
    by_cases z : p.1.length ≤ sizeLine
    · have h2 : (if p.1.length ≤ sizeLine then (compM p.2 tgf gt ge (wipeE ρ vs) p.1 [] μ1).bind fun r μ2 => Sr.of ((unT r).map fun l => D.t (.lst l)) μ2 else .bad).run Q E := h
      rw [if_pos z] at h2
      exact ⟨z, compM_red (Sr.run_mono (Sr.run_bind h2) (fun r μ2 hr => by
        obtain ⟨u, h3, h4⟩ := Sr.run_of hr
        obtain ⟨l, h5, rfl⟩ := map_some h3
        exact .inl ⟨l, h5, h4⟩) fun _ _ h => h)⟩
    · have h2 : (if p.1.length ≤ sizeLine then (compM p.2 tgf gt ge (wipeE ρ vs) p.1 [] μ1).bind fun r μ2 => Sr.of ((unT r).map fun l => D.t (.lst l)) μ2 else .bad).run Q E := h
      rw [if_neg z] at h2; exact h2.elim) fun _ _ h => h
theorem lcMR_imp {vs : List Nat} {ρ : En} {μ : Mu} {Q : D → Mu → Prop} {E : EK} (h : wM (mLcR gi tgf gt ge vs) ρ μ Q E) : wLc (wMI gi) (wMG tgf) (wMT gt) (wM ge) vs ρ μ Q E :=
  Sr.run_mono (Sr.run_bind h) (fun p μ1 h => by
    by_cases z : p.1.length ≤ sizeLine
    · have h2 : (if p.1.length ≤ sizeLine then (compM p.2 tgf gt ge (wipeE ρ vs) p.1 [] μ1).bind fun r μ2 => Sr.ok (D.r μ2.length) (μ2 ++ [MO.lst r]) else .bad).run Q E := h
      rw [if_pos z] at h2
      exact ⟨z, compM_red (Sr.run_mono (Sr.run_bind h2) (fun r μ2 hr => .inr hr) fun _ _ h => h)⟩
    · have h2 : (if p.1.length ≤ sizeLine then (compM p.2 tgf gt ge (wipeE ρ vs) p.1 [] μ1).bind fun r μ2 => Sr.ok (D.r μ2.length) (μ2 ++ [MO.lst r]) else .bad).run Q E := h
      rw [if_neg z] at h2; exact h2.elim) fun _ _ h => h
theorem me_lc (hc : X.calm = true) (hN : X.N.Nodup) (ok : BlkOk X.N X.env.scope scope own) (hi : MI X W tg iter gi) (hg : InBlk X scope fun Y => MC Y (own.map (·.2)) tg tgf) (ht : InBlk X scope fun Y => MTs Y W0 ifs gt) (he : InBlk X scope fun Y => ME Y W0 elt ge)
    (hs : ∀ x, foldedSetIterable iter X.env x = pure x := by intro _; rfl) : ME X W (.ListComp elt [⟨tg, iter, ifs, 0⟩] scope pos) (mLc gi tgf gt ge (own.map (·.2))) :=
  ⟨(ze_lc hc hN ok hi.z (fun s H C cl fp => (hg s H C cl fp).z) (fun s H C cl fp => (ht s H C cl fp).z) (fun s H C cl fp => (he s H C cl fp).z) hs).imp fun ρ μ Q E q => lcM_imp q⟩
theorem me_lcR (hc : X.calm = true) (hN : X.N.Nodup) (ok : BlkOk X.N X.env.scope scope own) (hi : MI X W tg iter gi) (hg : InBlk X scope fun Y => MC Y (own.map (·.2)) tg tgf) (ht : InBlk X scope fun Y => MTs Y W0 ifs gt) (he : InBlk X scope fun Y => ME Y W0 elt ge)
    (hs : ∀ x, foldedSetIterable iter X.env x = pure x := by intro _; rfl) : ME X W (.ListComp elt [⟨tg, iter, ifs, 0⟩] scope pos) (mLcR gi tgf gt ge (own.map (·.2))) :=
  ⟨(ze_lc hc hN ok hi.z (fun s H C cl fp => (hg s H C cl fp).z) (fun s H C cl fp => (ht s H C cl fp).z) (fun s H C cl fp => (he s H C cl fp).z) hs).imp fun ρ μ Q E q => lcMR_imp q⟩
end
/-! ### statements -/
inductive Mo where
  | nx (ρ : En) (μ : Mu) | rt (d : D) (μ : Mu) | bk (ρ : En) (μ : Mu) | ct (ρ : En) (μ : Mu) | er (e : Err) (ρ : En) (μ : Mu)
abbrev Ms := En → Mu → Option Mo
def Mo.run (G : Ez) : Option Mo → Prop
  | none => False
  | some (.nx ρ μ) => G.nx ρ μ
  | some (.rt d μ) => G.rt d μ
  | some (.bk ρ μ) => G.bk ρ μ
  | some (.ct ρ μ) => G.ct ρ μ
  | some (.er e ρ μ) => G.er e ρ μ
def wMS (g : Ms) : WSt := fun G ρ μ => Mo.run G (g ρ μ)
def liftM {α : Type} (x : Sr α) (ρ : En) (k : α → Mu → Option Mo) : Option Mo := match x with
  | .bad => none
  | .ok a μ => k a μ
  | .er e μ => some (.er e ρ μ)
theorem liftM_run {α : Type} {x : Sr α} {ρ : En} {k : α → Mu → Option Mo} {G : Ez} (h : Mo.run G (liftM x ρ k)) : x.run (fun a μ => Mo.run G (k a μ)) fun e μ => G.er e ρ μ := by
  cases x <;> exact h
structure MS (X : Cx) (W : WX) (st : Stmt) (g : Ms) : Prop where
  z : ZS X W st (wMS g)
structure MSs (X : Cx) (W : WX) (st : List Stmt) (g : Ms) : Prop where
  z : ZSs X W st (wMS g)
def msNext : Ms := fun ρ μ => some (.nx ρ μ)
def msSeq (a b : Ms) : Ms := fun ρ μ => match a ρ μ with
  | some (.nx ρ' μ') => b ρ' μ'
  | o => o
def msRet (g : Sx) : Ms := fun ρ μ => liftM (g ρ μ) ρ fun d μ1 => some (.rt d μ1)
def szB : T → Bool
  | .lst l => decide (l.length ≤ sizeLine)
  | .tup l => decide (l.length ≤ sizeLine)
  | _ => true
theorem szB_ok {t : T} (h : szB t = true) : szT t := by
  cases t with
  | lst l => exact (show l.length ≤ sizeLine from of_decide_eq_true (show decide (l.length ≤ sizeLine) = true from h))
  | tup l => exact (show l.length ≤ sizeLine from of_decide_eq_true (show decide (l.length ≤ sizeLine) = true from h))
  | _ => trivial
/-- what is given back is from now on a tree -/
def frz (μ : Mu) : D → Option (T × Mu)
  | .t t => some (t, μ)
  | .r i => ((μ[i]?).bind vwM).bind fun t => if szB t = true then some (t, μ.set i .dead) else none
def msRetF (g : Sx) : Ms := fun ρ μ => liftM (g ρ μ) ρ fun d μ1 => (frz μ1 d).map fun q => .rt (.t q.1) q.2
def msRetN : Ms := fun _ μ => some (.rt (.t .non) μ)
def msIf (gc : Sb) (a b : Ms) : Ms := fun ρ μ => liftM (gc ρ μ) ρ fun k μ1 => if k = true then a ρ μ1 else b ρ μ1
def msAsg (g : Sx) (tg : Mg) : Ms := fun ρ μ => liftM (g ρ μ) ρ fun d μ1 => (tg d ρ μ1).map fun q => .nx q.1 q.2
def msBrk : Ms := fun ρ μ => some (.bk ρ μ)
def msCnt : Ms := fun ρ μ => some (.ct ρ μ)
def msDrop (g : Sx) : Ms := fun ρ μ => liftM (g ρ μ) ρ fun _ μ1 => some (.nx ρ μ1)
/-- slot i is frozen -/
def msFz (i : Nat) : Ms := fun ρ μ => match ρ[i]? with
  | some (some (.r k)) => (frz μ (.r k)).map fun q => .nx (ρ.set i (some (.t q.1))) q.2
  | some (some (.t t)) => some (.nx ρ μ)
  | _ => none
section
variable {X : Cx} {W : WX} {st : Stmt} {rest : List Stmt} {sa sb : Ms} {gc : Sb} {e a b c tg iter elt : Expr} {es ifs : List Expr} {pos p p2 spos : Pos} {g ga gb : Sx} {gs : Sa} {gi : Sw} {tgf : Mg} {gt : Sb} {ge : Sx} {scope : Scope} {own : List (Str × Nat)}
theorem frz_run {G : Ez} {μ1 : Mu} {d : D} (h : Mo.run G ((frz μ1 d).map fun q => .rt (.t q.1) q.2)) : G.rt d μ1 ∨ ∃ i t, d = .r i ∧ (μ1[i]?).bind vwM = some t ∧ szT t ∧ G.rt (.t t) (μ1.set i .dead) := by
  cases d with
  | t t => exact .inl h
  | r i =>
    have h' : Mo.run G ((((μ1[i]?).bind vwM).bind fun t => if szB t = true then some (t, μ1.set i .dead) else none).map fun q : T × Mu => .rt (.t q.1) q.2) := h
    cases e1 : (μ1[i]?).bind vwM with
    | none => rw [e1] at h'; exact h'.elim
    | some t =>
      rw [e1] at h'
      have h2 : Mo.run G ((if szB t = true then some (t, μ1.set i .dead) else none).map fun q : T × Mu => .rt (.t q.1) q.2) := h'
      by_cases z : szB t = true
      · rw [if_pos z] at h2
        exact .inr ⟨i, t, rfl, e1, szB_ok z, h2⟩
      · rw [if_neg z] at h2; exact h2.elim
theorem mss_nil : MSs X W [] msNext := ⟨zss_nil.imp fun G ρ μ h => h⟩
theorem mss_one (h : MS X W st sa) : MSs X W [st] sa := ⟨zss_one h.z⟩
theorem mss_cons (h1 : MS X W st sa) (h2 : MSs X W rest sb) : MSs X W (st :: rest) (msSeq sa sb) :=
  ⟨(zss_cons h1.z h2.z).imp fun G ρ μ h => by
    have h' : Mo.run G (match sa ρ μ with | some (.nx ρ' μ') => sb ρ' μ' | o => o) := h
    show Mo.run { G with nx := wMS sb G } (sa ρ μ)
    cases e : sa ρ μ with
    | none => rw [e] at h'; exact h'
    | some o => rw [e] at h'; cases o <;> exact h'⟩
/-- slot i becomes a tree ahead of what follows -/
theorem mss_fz (i : Nat) (h : MSs X W rest sb) : MSs X W rest (msSeq (msFz i) sb) :=
  ⟨⟨PSs.imp h.z.pss fun D σ H ⟨F, β, ρ, μ, G, s, l, g, h0⟩ => by
    have h' : Mo.run G (match (match ρ[i]? with | some (some (.r k)) => (frz μ (.r k)).map fun q : T × Mu => Mo.nx (ρ.set i (some (.t q.1))) q.2 | some (some (.t t)) => some (.nx ρ μ) | _ => none) with | some (.nx ρ' μ') => sb ρ' μ' | o => o) := h0
    cases e : ρ[i]? with
    | none => rw [e] at h'; exact h'.elim
    | some o =>
      rw [e] at h'
      cases o with
      | none => exact h'.elim
      | some d =>
        cases d with
        | t t => exact ⟨F, β, ρ, μ, G, s, l, g, h'⟩
        | r k =>
          have h2 : Mo.run G (match ((((μ[k]?).bind vwM).bind fun t => if szB t = true then some (t, μ.set k .dead) else none).map fun q : T × Mu => Mo.nx (ρ.set i (some (.t q.1))) q.2) with | some (.nx ρ' μ') => sb ρ' μ' | o => o) := h'
          cases e1 : (μ[k]?).bind vwM with
          | none => rw [e1] at h2; exact h2.elim
          | some t =>
            rw [e1] at h2
            have h3 : Mo.run G (match ((if szB t = true then some (t, μ.set k .dead) else none).map fun q : T × Mu => Mo.nx (ρ.set i (some (.t q.1))) q.2) with | some (.nx ρ' μ') => sb ρ' μ' | o => o) := h2
            by_cases z : szB t = true
            · rw [if_pos z] at h3
              obtain ⟨v, e3, a, ha, rfl⟩ := l.ok i _ e
              obtain ⟨s2, st2⟩ := s.freeze ha
              have r := rep_of_now s ha e1 fun l hl => by rcases hl with rfl | rfl <;> exact szB_ok z
              refine ⟨_, β, _, _, G, s2, ⟨by simpa using l.len, fun j d e4 => ?_⟩, g.stp st2, h3⟩
              by_cases hj : i = j
              · subst hj
                rw [List.getElem?_set_self (List.getElem?_eq_some_iff.mp e).1] at e4
                cases e4
                exact ⟨_, e3, r⟩
              · rw [List.getElem?_set_ne hj] at e4
                obtain ⟨v', e5, r4⟩ := l.ok j d e4
                exact ⟨v', e5, r4.stp st2⟩
            · rw [if_neg z] at h3; exact h3.elim⟩⟩
theorem ms_pass : MS X W (.Pass pos) msNext := ⟨zs_pass.imp fun G ρ μ h => h⟩
theorem ms_break : MS X W (.Break pos) msBrk := ⟨zs_break.imp fun G ρ μ h => h⟩
theorem ms_continue : MS X W (.Continue pos) msCnt := ⟨zs_continue.imp fun G ρ μ h => h⟩
theorem ms_ret (he : ME X W e g) : MS X W (.Return (some e) pos) (msRet g) := ⟨(zs_ret he.z).imp fun G ρ μ h => Sr.run_mono (liftM_run h) (fun t μ1 h => .inl h) fun _ _ h => h⟩
theorem ms_retF (he : ME X W e g) : MS X W (.Return (some e) pos) (msRetF g) := ⟨(zs_ret he.z).imp fun G ρ μ h => Sr.run_mono (liftM_run h) (fun t μ1 h => frz_run h) fun _ _ h => h⟩
theorem ms_retN : MS X W (.Return none pos) msRetN := ⟨zs_retN.imp fun G ρ μ h => h⟩
theorem ms_if {A B : List Stmt} (hc : MT X W c gc) (ha : MSs X W A sa) (hb : MSs X W B sb) : MS X W (.If c A B pos) (msIf gc sa sb) :=
  ⟨(zs_if hc.z ha.z hb.z).imp fun G ρ μ h => Sr.run_mono (liftM_run h) (fun k μ1 h => by cases k <;> exact h) fun _ _ h => h⟩
theorem ms_expr (he : ME X W e g) (hs : swapsWith e none pos.line X.env = pure false := by rfl) : MS X W (.Expr e pos) (msDrop g) := ⟨(zs_expr he.z hs).imp fun G ρ μ h => Sr.run_mono (liftM_run h) (fun t μ1 h => h) fun _ _ h => h⟩
theorem optM_run {o : Option (En × Mu)} {G : Ez} (h : Mo.run G (o.map fun q => .nx q.1 q.2)) : ∃ q, o = some q ∧ G.nx q.1 q.2 := by
  cases o with
  | none => exact h.elim
  | some q => exact ⟨q, rfl, h⟩
theorem ms_asg (he : ME X W e g) (hg : MG X tg tgf) (hs : swapsWithSole [tg] e pos.line X.env = pure false := by rfl) (hw : swappedStores [tg] e X.env = pure none := by rfl)
    (h1 : (assignEach [tg] X.env).map (·.2) = [assign tg X.env] := by rfl) : MS X W (.Assign [tg] e pos) (msAsg g tgf) :=
  ⟨(zs_asg he.z hg.z hs hw h1).imp fun G ρ μ h => Sr.run_mono (liftM_run h) (fun t μ1 h => optM_run h) fun _ _ h => h⟩
theorem ms_set (i : Nat) {x : Str} {pos' : Pos} (hN : X.N.Nodup) (he : ME X W e g) (hi : X.N[i]? = some x := by rfl) (hx : Loc X.env.scope x := by first | exact Or.inl rfl | exact Or.inr rfl) (hs : swapsWith e (some (.Name x pos')) pos.line X.env = pure false := by rfl)
    (hf : X.fn x = true ∨ X.env.scope.names.lookup x = some .local := by first | exact .inl rfl | exact .inr rfl | assumption) : MS X W (.Assign [.Name x pos'] e pos) (msAsg g (mgName i)) :=
  ⟨(zs_set i hN he.z hi hx hs hf).imp fun G ρ μ h => Sr.run_mono (liftM_run h) (fun t μ1 h => by obtain ⟨q, h1, h2⟩ := optM_run h; cases h1; exact h2) fun _ _ h => h⟩
theorem ms_setLc (i : Nat) {y : Str} {py : Pos} (hc : X.calm = true) (hN : X.N.Nodup) (ok : BlkOk X.N X.env.scope scope own) (hi : MI X W tg iter gi) (hg : InBlk X scope fun Y => MC Y (own.map (·.2)) tg tgf) (ht : InBlk X scope fun Y => MTs Y W0 ifs gt) (he : InBlk X scope fun Y => ME Y W0 elt ge)
    (hy : X.N[i]? = some y := by rfl) (hyl : X.env.scope.names.lookup y = some .local := by rfl)
    (hsw : swapsWith (.ListComp elt [⟨tg, iter, ifs, 0⟩] scope pos) (some (.Name y py)) spos.line X.env = pure true := by rfl)
    (hs : ∀ x, foldedSetIterable iter X.env x = pure x := by intro _; rfl) : MS X W (.Assign [.Name y py] (.ListComp elt [⟨tg, iter, ifs, 0⟩] scope pos) spos) (msAsg (mLc gi tgf gt ge (own.map (·.2))) (mgName i)) :=
  ⟨(zs_setLc i hc hN ok hi.z (fun s H C cl fp => (hg s H C cl fp).z) (fun s H C cl fp => (ht s H C cl fp).z) (fun s H C cl fp => (he s H C cl fp).z) hy hyl hsw hs).imp fun G ρ μ h =>
    lcM_imp (Q := fun d μ' => wgName i d ρ μ' G.nx) (E := fun e μ' => G.er e ρ μ') (Sr.run_mono (liftM_run h) (fun t μ1 h => by obtain ⟨q, h1, h2⟩ := optM_run h; cases h1; exact h2) fun _ _ h => h)⟩
theorem ms_setLcR (i : Nat) {y : Str} {py : Pos} (hc : X.calm = true) (hN : X.N.Nodup) (ok : BlkOk X.N X.env.scope scope own) (hi : MI X W tg iter gi) (hg : InBlk X scope fun Y => MC Y (own.map (·.2)) tg tgf) (ht : InBlk X scope fun Y => MTs Y W0 ifs gt) (he : InBlk X scope fun Y => ME Y W0 elt ge)
    (hy : X.N[i]? = some y := by rfl) (hyl : X.env.scope.names.lookup y = some .local := by rfl)
    (hsw : swapsWith (.ListComp elt [⟨tg, iter, ifs, 0⟩] scope pos) (some (.Name y py)) spos.line X.env = pure true := by rfl)
    (hs : ∀ x, foldedSetIterable iter X.env x = pure x := by intro _; rfl) : MS X W (.Assign [.Name y py] (.ListComp elt [⟨tg, iter, ifs, 0⟩] scope pos) spos) (msAsg (mLcR gi tgf gt ge (own.map (·.2))) (mgName i)) :=
  ⟨(zs_setLc i hc hN ok hi.z (fun s H C cl fp => (hg s H C cl fp).z) (fun s H C cl fp => (ht s H C cl fp).z) (fun s H C cl fp => (he s H C cl fp).z) hy hyl hsw hs).imp fun G ρ μ h =>
    lcMR_imp (Q := fun d μ' => wgName i d ρ μ' G.nx) (E := fun e μ' => G.er e ρ μ') (Sr.run_mono (liftM_run h) (fun t μ1 h => by obtain ⟨q, h1, h2⟩ := optM_run h; cases h1; exact h2) fun _ _ h => h)⟩
end
/-! ### for -/
section
open Classical
noncomputable def forM' (c : Ck) (tg : Mg) (body : Ms) : List D → En → Mu → Option Mo
  | [], ρ, μ => if ckP c μ then some (.nx ρ μ) else none
  | d :: r, ρ, μ => if ckP c μ then (match tg d ρ μ with
    | none => none
    | some q => match body q.1 q.2 with
      | some (.nx ρ2 μ2) => forM' c tg body r ρ2 μ2
      | some (.ct ρ2 μ2) => forM' c tg body r ρ2 μ2
      | some (.bk ρ2 μ2) => some (.nx ρ2 μ2)
      | o => o) else none
end
noncomputable def msFor (gi : Sw) (tg : Mg) (body : Ms) : Ms := fun ρ μ => liftM (gi ρ μ) ρ fun p μ1 => forM' p.2 tg body p.1 ρ μ1
theorem loopM_red {c : Ck} {tg : Mg} {body : Ms} {G : Ez} : ∀ {l : List D} {ρ : En} {μ : Mu}, Mo.run G (forM' c tg body l ρ μ) → wLoop (ckP c) (wMG tg) (wMS body) G l ρ μ
  | [], ρ, μ, h => by
    unfold forM' at h
    by_cases z : ckP c μ
    · rw [if_pos z] at h; exact ⟨z, h⟩
    · rw [if_neg z] at h; exact h.elim
  | d :: r, ρ, μ, h => by
    unfold forM' at h
    by_cases z : ckP c μ
    · rw [if_pos z] at h
      refine ⟨z, ?_⟩
      cases e : tg d ρ μ with
      | none => rw [e] at h; exact h.elim
      | some q =>
        rw [e] at h
        refine ⟨q, e, ?_⟩
        show Mo.run _ (body q.1 q.2)
        have h2 : Mo.run G (match body q.1 q.2 with | some (.nx ρ2 μ2) => forM' c tg body r ρ2 μ2 | some (.ct ρ2 μ2) => forM' c tg body r ρ2 μ2 | some (.bk ρ2 μ2) => some (.nx ρ2 μ2) | o => o) := h
        cases e2 : body q.1 q.2 with
        | none => rw [e2] at h2; exact h2
        | some o =>
          rw [e2] at h2
          cases o with
          | nx ρ2 μ2 => exact loopM_red h2
          | ct ρ2 μ2 => exact loopM_red h2
          | bk ρ2 μ2 => exact h2
          | rt t μ2 => exact h2
          | er e ρ2 μ2 => exact h2
    · rw [if_neg z] at h; exact h.elim
section
variable {X : Cx} {W : WX} {tg iter : Expr} {body : List Stmt} {pos : Pos} {gi : Sw} {tgf : Mg} {sa : Ms}
theorem ms_for (hp : PassesOwn (model X.prog X.w) X.A X.env X.xe) (hc : X.calm = true) (hi : MI X W tg iter gi) (hg : MG X tg tgf) (hb : MSs X W body sa)
    (hs : ∀ x, foldedSetIterable iter X.env x = pure x := by intro _; rfl) : MS X W (.For tg iter body [] pos) (msFor gi tgf sa) :=
  ⟨(zs_for hp hc hi.z hg.z hb.z hs).imp fun G ρ μ h => Sr.run_mono (liftM_run h) (fun l μ1 h => loopM_red h) fun _ _ h => h⟩
end
end Zy
set_option Elab.async false
set_option linter.all false
set_option maxRecDepth 100000
set_option maxHeartbeats 400000
/-! ZQ: code that changes the store, as functions: append, calls, errors, defs. -/
namespace Zy
open PySem PySem.Spec PyProof.Rows L2
section
variable {X : Cx} {W : WX} {o e a b c tg iter elt : Expr} {es ifs : List Expr} {pos p p2 spos apos cpos : Pos} {g ga gb go : Sx} {gs : Sa}
/-! ### o.append(e) -/
def mApp (go ga : Sx) : Sx := fun ρ μ => (go ρ μ).bind fun d μ1 => match d with
  | .r i => match μ1[i]? with
    | some (.lst _) => (ga ρ μ1).bind fun y μ2 => match μ2[i]? with
      | some (.lst l) => if l.length < sizeLine then .ok (.t .non) (μ2.set i (.lst (l ++ [y]))) else .bad
      | _ => .bad
    | _ => .bad
  | _ => .bad
theorem me_append (ho : ME X W o go) (ha : ME X W e ga) (hs : starEach [e] X.env = (false, eval e X.env) :: starEach [] X.env := by rfl)
    (h1 : attributeBase o ("append" : Str) X.env (eval o X.env) = eval o X.env := by rfl)
    (h2 : ((((backTo cpos (starEach [e] X.env)).all fun x => !x.1) && (backToKw cpos (keywordEach [] X.env)).all fun x => x.1.isSome) && decide (([e].length + ([] : List Keyword).length + if ([] : List Keyword).isEmpty = true then 0 else 1) < 30)) = true := by rfl)
    (h3 : (apos.endLine == cpos.line) = true := by rfl) (h4 : ((backTo cpos (starEach [] X.env)).any fun x => x.1) = false := by rfl) : ME X W (.Call (.Attribute o "append" apos) [e] [] cpos) (mApp go ga) :=
  ⟨(ze_append ho.z ha.z hs h1 h2 h3 h4).imp fun ρ μ Q E q => Sr.run_mono (Sr.run_bind q) (fun d μ1 h => by
    cases d with
    | t t => exact h.elim
    | r i =>
      have h' : (match μ1[i]? with
        | some (MO.lst _) => (ga ρ μ1).bind fun y μ2 => (match μ2[i]? with
          | some (MO.lst l) => if l.length < sizeLine then Sr.ok (D.t .non) (μ2.set i (.lst (l ++ [y]))) else .bad
          | _ => .bad)
        | _ => .bad).run Q E := h
      cases em : μ1[i]? with
      | none => rw [em] at h'; exact h'.elim
      | some m =>
        rw [em] at h'
        cases m with
        | lst l0 =>
          refine ⟨i, l0, rfl, em, Sr.run_mono (Sr.run_bind h') (fun y μ2 h2 => ?_) fun _ _ h => h⟩
          cases em2 : μ2[i]? with
          | none => rw [em2] at h2; exact h2.elim
          | some m2 =>
            rw [em2] at h2
            cases m2 with
            | lst l =>
              have h3 : (if l.length < sizeLine then Sr.ok (D.t .non) (μ2.set i (.lst (l ++ [y]))) else .bad).run Q E := h2
              by_cases z : l.length < sizeLine
              · rw [if_pos z] at h3; exact ⟨l, rfl, z, h3⟩
              · rw [if_neg z] at h3; exact h3.elim
            | _ => exact h2.elim
        | _ => exact h'.elim) fun _ _ h => h⟩
/-! ### calls -/
def backM (μ : Mu) (ids : List Nat) (d : D) (μ' : Mu) : Sr D :=
  if ids.length ≤ μ'.length ∧ allP (μ'.take ids.length) = true then (match d with
    | .t t => .ok (.t t) (put μ ids (μ'.take ids.length))
    | .r j => match ids[j]? with
      | some i => .ok (.r i) (put μ ids (μ'.take ids.length))
      | none => match μ'[j]? with
        | some m => if purM m = true then .ok (.r μ.length) (put μ ids (μ'.take ids.length) ++ [m]) else
          (match imp μ.length (List.range' ids.length (μ'.length - ids.length)) μ' (List.range' ids.length (μ'.length - ids.length)) with
          | some ms => .ok (.r (μ.length + (List.range' ids.length (μ'.length - ids.length)).idxOf j)) (put μ ids (μ'.take ids.length) ++ ms)
          | none => .bad)
        | none => .bad) else .bad
theorem backM_run {μ : Mu} {ids : List Nat} {Q : D → Mu → Prop} {E : EK} {d : D} {μ' : Mu} (h : (backM μ ids d μ').run Q E) : back2 μ ids Q d μ' := by
  unfold backM at h
  by_cases z : ids.length ≤ μ'.length ∧ allP (μ'.take ids.length) = true
  · rw [if_pos z] at h
    cases d with
    | t t => exact .inl ⟨z.1, z.2, .inl ⟨t, rfl, h⟩⟩
    | r j =>
      have h' : (match ids[j]? with
        | some i => Sr.ok (D.r i) (put μ ids (μ'.take ids.length))
        | none => match μ'[j]? with
          | some m => if purM m = true then .ok (.r μ.length) (put μ ids (μ'.take ids.length) ++ [m]) else
            (match imp μ.length (List.range' ids.length (μ'.length - ids.length)) μ' (List.range' ids.length (μ'.length - ids.length)) with
            | some ms => .ok (.r (μ.length + (List.range' ids.length (μ'.length - ids.length)).idxOf j)) (put μ ids (μ'.take ids.length) ++ ms)
            | none => .bad)
          | none => .bad).run Q E := h
      cases e : ids[j]? with
      | some i => rw [e] at h'; exact .inl ⟨z.1, z.2, .inr (.inl ⟨j, i, rfl, e, h'⟩)⟩
      | none =>
        rw [e] at h'
        have hj : ids.length ≤ j := List.getElem?_eq_none_iff.mp e
        have h2 : (match μ'[j]? with
          | some m => if purM m = true then Sr.ok (D.r μ.length) (put μ ids (μ'.take ids.length) ++ [m]) else
            (match imp μ.length (List.range' ids.length (μ'.length - ids.length)) μ' (List.range' ids.length (μ'.length - ids.length)) with
            | some ms => .ok (.r (μ.length + (List.range' ids.length (μ'.length - ids.length)).idxOf j)) (put μ ids (μ'.take ids.length) ++ ms)
            | none => .bad)
          | none => .bad).run Q E := h'
        cases em : μ'[j]? with
        | none => rw [em] at h2; exact h2.elim
        | some m =>
          rw [em] at h2
          have h3 : (if purM m = true then Sr.ok (D.r μ.length) (put μ ids (μ'.take ids.length) ++ [m]) else
            (match imp μ.length (List.range' ids.length (μ'.length - ids.length)) μ' (List.range' ids.length (μ'.length - ids.length)) with
            | some ms => .ok (.r (μ.length + (List.range' ids.length (μ'.length - ids.length)).idxOf j)) (put μ ids (μ'.take ids.length) ++ ms)
            | none => .bad)).run Q E := h2
          by_cases hp : purM m = true
          · rw [if_pos hp] at h3
            exact .inl ⟨z.1, z.2, .inr (.inr ⟨j, m, rfl, hj, em, hp, h3⟩)⟩
          · rw [if_neg hp] at h3
            cases ei : imp μ.length (List.range' ids.length (μ'.length - ids.length)) μ' (List.range' ids.length (μ'.length - ids.length)) with
            | none => rw [ei] at h3; exact h3.elim
            | some ms =>
              rw [ei] at h3
              refine .inr ⟨z.1, z.2, j, _, ms, rfl, List.nodup_range', fun k hk => (List.mem_range'_1.mp hk).1, ?_, ei, h3⟩
              have := (List.getElem?_eq_some_iff.mp em).1
              exact List.mem_range'_1.mpr ⟨hj, by omega⟩
  · rw [if_neg z] at h; exact h.elim
abbrev Fm := List D → Mu → Sr D
def mCall (f : Fm) (dts : List T) (n : Nat) (gs : Sa) : Sx := fun ρ μ => (gs ρ μ).bind fun ds μ1 => if ds.length + dts.length = n then (match sub μ1 (refs ds) with
  | none => .bad
  | some μs => match f (ds.map (ren (refs ds)) ++ dts.map D.t) μs with
    | .bad => .bad
    | .ok d μ' => backM μ1 (refs ds) d μ'
    | .er e μ' => if (refs ds).length ≤ μ'.length ∧ allP (μ'.take (refs ds).length) = true then .er e (put μ1 (refs ds) (μ'.take (refs ds).length)) else .bad) else .bad
/-- a def that may change the store, as a function -/
def mdE (f : Fm) : WFn := fun ds μ Q E => (f ds μ).run Q E
structure MD (P : Program) (w : World) (K : PySem.W.Frag) (mg : Str → Option Value) (base : Heap) (x : Str) (ps : List Str) (k : Nat) (dts : List T) (f : Fm) : Prop where
  ex : ∃ fa fd dvs dsv, mg x = some (.ref fa) ∧ PySem.W.keepIn K (.ref fa) = true ∧ FnOk P w K mg base (L2.CX P w) k fa fd ps (spZ K ps.length (mdE f)) ∧ Binds K fd ps dsv ∧ Vals dvs dsv ∧ ∀ F H, RepL K F H dts dvs
theorem call_imp {f : Fm} {dts : List T} {n : Nat} {ds : List D} {μ1 : Mu} {Q : D → Mu → Prop} {E : EK} (h : (if ds.length + dts.length = n then (match sub μ1 (refs ds) with
  | none => Sr.bad
  | some μs => match f (ds.map (ren (refs ds)) ++ dts.map D.t) μs with
    | .bad => .bad
    | .ok d μ' => backM μ1 (refs ds) d μ'
    | .er e μ' => if (refs ds).length ≤ μ'.length ∧ allP (μ'.take (refs ds).length) = true then .er e (put μ1 (refs ds) (μ'.take (refs ds).length)) else .bad) else .bad).run Q E) :
    ds.length + dts.length = n ∧ ∃ μs, sub μ1 (refs ds) = some μs ∧ mdE f (ds.map (ren (refs ds)) ++ dts.map D.t) μs (back2 μ1 (refs ds) Q) (backE μ1 (refs ds) E) := by
  by_cases z : ds.length + dts.length = n
  · rw [if_pos z] at h
    refine ⟨z, ?_⟩
    cases es : sub μ1 (refs ds) with
    | none => rw [es] at h; exact h.elim
    | some μs =>
      rw [es] at h
      refine ⟨μs, rfl, ?_⟩
      have h2 : (match f (ds.map (ren (refs ds)) ++ dts.map D.t) μs with
        | .bad => Sr.bad
        | .ok d μ' => backM μ1 (refs ds) d μ'
        | .er e μ' => if (refs ds).length ≤ μ'.length ∧ allP (μ'.take (refs ds).length) = true then .er e (put μ1 (refs ds) (μ'.take (refs ds).length)) else .bad).run Q E := h
      unfold mdE
      cases ef : f (ds.map (ren (refs ds)) ++ dts.map D.t) μs with
      | bad => rw [ef] at h2; exact h2.elim
      | ok d μ' => rw [ef] at h2; exact backM_run h2
      | er e μ' =>
        rw [ef] at h2
        have h3 : (if (refs ds).length ≤ μ'.length ∧ allP (μ'.take (refs ds).length) = true then Sr.er (α := D) e (put μ1 (refs ds) (μ'.take (refs ds).length)) else .bad).run Q E := h2
        by_cases y : (refs ds).length ≤ μ'.length ∧ allP (μ'.take (refs ds).length) = true
        · rw [if_pos y] at h3; exact ⟨y.1, y.2, h3⟩
        · rw [if_neg y] at h3; exact h3.elim
  · rw [if_neg z] at h; exact h.elim
theorem me_md {x : Str} {ps : List Str} {k j : Nat} {dts : List T} {f : Fm} (h : MD X.prog X.w X.K X.mg X.base x ps k dts f) (hr : Room j X.A) (hk : k ≤ j) (tk : Takes X W) (ha : MA X W (e :: es) gs) (hg : Gl X x := by rfl) (hdb : (x == ("__debug__" : Str)) = false := by decide)
    (he : starEach (e :: es) X.env = (false, eval e X.env) :: starEach es X.env := by rfl) (hpl : (backTo pos (starEach es X.env)).any (·.1) = false := by rfl) : ME X W (.Call (.Name x p) (e :: es) [] pos) (mCall f dts ps.length gs) := by
  obtain ⟨fa, fd, dvs, dsv, h1, h2, h3, h4, h5, h6⟩ := h.ex
  exact ⟨(ze_callX h3 (hr.mono hk) h1 h2 h4 h5 h6 tk ha.z hg hdb he hpl).imp fun ρ μ Q E q => Sr.run_mono (Sr.run_bind q) (fun ds μ1 h => by
    obtain ⟨z, μs, q1, q2⟩ := call_imp h
    exact ⟨z, .inl ⟨μs, q1, q2⟩⟩) fun _ _ h => h⟩
/-- a pure def called -/
def mCallP (f : List T → Pr T) (dts : List T) (n : Nat) (gs : Sa) : Sx := fun ρ μ => (gs ρ μ).bind fun ds μ1 => if ds.length + dts.length = n then (match unT ds with
  | some ts => (match f (ts ++ dts) with
    | .ok r => .ok (.t r) μ1
    | .er e => .er e μ1
    | .bad => .bad)
  | none => match Zy.dvs (dvw 4 μ1) ds with
    | some ts => (match f (ts ++ dts) with
      | .ok r => if leafT r = true then .ok (.t r) μ1 else .bad
      | _ => .bad)
    | none => .bad) else .bad
theorem me_pd {x : Str} {ps : List Str} {k j : Nat} {dts : List T} {f : List T → Pr T} (h : PD X.prog X.w X.K X.mg X.base x ps k dts f) (hr : Room j X.A) (hk : k ≤ j) (tk : Takes X W) (ha : MA X W (e :: es) gs) (hg : Gl X x := by rfl) (hdb : (x == ("__debug__" : Str)) = false := by decide)
    (he : starEach (e :: es) X.env = (false, eval e X.env) :: starEach es X.env := by rfl) (hpl : (backTo pos (starEach es X.env)).any (·.1) = false := by rfl) : ME X W (.Call (.Name x p) (e :: es) [] pos) (mCallP f dts ps.length gs) := by
  obtain ⟨fa, fd, dvs, dsv, h1, h2, h3, h4, h5, h6⟩ := h.ex
  refine ⟨(ze_callX h3 (hr.mono hk) h1 h2 h4 h5 h6 tk ha.z hg hdb he hpl).imp fun ρ μ Q E q => Sr.run_mono (Sr.run_bind q) (fun ds μ1 h => ?_) fun _ _ h => h⟩
  have h' : (if ds.length + dts.length = ps.length then (match unT ds with
    | some ts => (match f (ts ++ dts) with
      | .ok r => Sr.ok (D.t r) μ1
      | .er e => .er e μ1
      | .bad => .bad)
    | none => match Zy.dvs (dvw 4 μ1) ds with
      | some ts => (match f (ts ++ dts) with
        | .ok r => if leafT r = true then .ok (.t r) μ1 else .bad
        | _ => .bad)
      | none => .bad) else .bad).run Q E := h
  by_cases z : ds.length + dts.length = ps.length
  · rw [if_pos z] at h'
    refine ⟨z, ?_⟩
    cases eu : unT ds with
    | some ts =>
      rw [eu] at h'
      obtain rfl := unT_map eu
      refine .inl ⟨[], by rw [refs_t]; rfl, rfl, ts ++ dts, ?_, ?_⟩
      · rw [refs_t, List.map_append, List.map_map]; congr 1
      · rw [refs_t]
        have h2 : (match f (ts ++ dts) with | .ok r => Sr.ok (D.t r) μ1 | .er e => .er e μ1 | .bad => .bad).run Q E := h'
        cases ef : f (ts ++ dts) with
        | bad => rw [ef] at h2; exact h2.elim
        | ok r => rw [ef] at h2; exact fun g => .inl ⟨Nat.zero_le _, rfl, .inl ⟨r, rfl, h2⟩⟩
        | er e => rw [ef] at h2; exact fun g => ⟨Nat.zero_le _, rfl, h2⟩
    | none =>
      rw [eu] at h'
      have h2 : (match Zy.dvs (dvw 4 μ1) ds with
        | some ts => (match f (ts ++ dts) with
          | .ok r => if leafT r = true then Sr.ok (D.t r) μ1 else .bad
          | _ => .bad)
        | none => .bad).run Q E := h'
      cases ed : Zy.dvs (dvw 4 μ1) ds with
      | none => rw [ed] at h2; exact h2.elim
      | some ts =>
        rw [ed] at h2
        have h3 : (match f (ts ++ dts) with | .ok r => if leafT r = true then Sr.ok (D.t r) μ1 else .bad | _ => .bad).run Q E := h2
        refine .inr ⟨4, ts, ed, rfl, ts ++ dts, by rw [List.map_append], ?_⟩
        cases ef : f (ts ++ dts) with
        | bad => rw [ef] at h3; exact h3.elim
        | er e => rw [ef] at h3; exact h3.elim
        | ok r =>
          rw [ef] at h3
          have h4 : (if leafT r = true then Sr.ok (D.t r) μ1 else .bad).run Q E := h3
          by_cases y : leafT r = true
          · rw [if_pos y] at h4; exact fun g => ⟨r, rfl, y, h4⟩
          · rw [if_neg y] at h4; exact h4.elim
  · rw [if_neg z] at h'; exact h'.elim
/-! ### raise -/
def msRaise (C : Addr) (f : Str) (g : Sx) : Ms := fun ρ μ => liftM (g ρ μ) ρ fun d μ1 => (frz μ1 d).map fun q => .er (.own C [f] [q.1]) ρ q.2
theorem ms_raise {C fI : Addr} {f x : Str} {z : PySem.Sup.IPos} {pos2 : Pos} {k : Nat} (hc : X.calm = true) (T : OwnErr X.prog X.K X.mg x C fI f z) (hr : Room k X.A) (tk : Takes X W) (he : ME X W e g) (hg : Gl X x := by rfl) (hd : (x == ("__debug__" : Str)) = false := by decide)
    (hs : starEach (e :: []) X.env = (false, eval e X.env) :: starEach [] X.env := by rfl) (hpl : (backTo pos (starEach [] X.env)).any (·.1) = false := by rfl) : MS X W (.Raise (some (.Call (.Name x p) [e] [] pos)) none pos2) (msRaise C f g) :=
  ⟨(zs_raise hc T hr tk he.z hg hd hs hpl).imp fun G ρ μ h => Sr.run_mono (liftM_run h) (fun d μ1 h => by
    cases d with
    | t t => exact .inl ⟨t, rfl, h⟩
    | r i =>
      have h' : Mo.run G ((((μ1[i]?).bind vwM).bind fun t => if szB t = true then some (t, μ1.set i .dead) else none).map fun q : Zy.T × Mu => .er (.own C [f] [q.1]) ρ q.2) := h
      cases e1 : (μ1[i]?).bind vwM with
      | none => rw [e1] at h'; exact h'.elim
      | some t =>
        rw [e1] at h'
        have h2 : Mo.run G ((if szB t = true then some (t, μ1.set i .dead) else none).map fun q : Zy.T × Mu => .er (.own C [f] [q.1]) ρ q.2) := h'
        by_cases z : szB t = true
        · rw [if_pos z] at h2
          exact .inr ⟨i, t, rfl, e1, szB_ok z, h2⟩
        · rw [if_neg z] at h2; exact h2.elim) fun _ _ h => h⟩
end
/-! ### try -/
def clrM (i : Nat) : Mo → Option Mo
  | .nx ρ μ => some (.nx (ρ.set i none) μ)
  | .rt d μ => some (.rt d μ)
  | .bk ρ μ => some (.bk (ρ.set i none) μ)
  | .ct ρ μ => some (.ct (ρ.set i none) μ)
  | .er _ _ _ => none
abbrev MSu := Addr → Value → Option Addr → Ms
theorem clrM_run {G : Ez} {i : Nat} {o : Option Mo} (h : Mo.run G (o.bind (clrM i))) : Mo.run (gSuite G i) o := by
  cases o with
  | none => exact h
  | some o => cases o <;> exact h
section
open Classical
noncomputable def hndM (K : PySem.W.Frag) : List (Value × Nat × MSu) → Err → En → Mu → Option Mo
  | [], e, ρ, μ => some (.er e ρ μ)
  | (c, i, S) :: r, e, ρ, μ => match exmE K e c with
    | none => none
    | some true => (match e with
      | .own C ns l => if ∀ a dd, (S a (.ref C) (some dd) (ρ.set i (some (.t (.er a dd ns l)))) μ).bind (clrM i) = (S 0 (.ref C) (some 0) (ρ.set i (some (.t (.er 0 0 ns l)))) μ).bind (clrM i) then (S 0 (.ref C) (some 0) (ρ.set i (some (.t (.er 0 0 ns l)))) μ).bind (clrM i) else none
      | .bi n => if ∀ a d, (S a (.type n) d (ρ.set i (some (.t (.ob a)))) μ).bind (clrM i) = (S 0 (.type n) none (ρ.set i (some (.t (.ob 0)))) μ).bind (clrM i) then (S 0 (.type n) none (ρ.set i (some (.t (.ob 0)))) μ).bind (clrM i) else none)
    | some false => hndM K r e ρ μ
noncomputable def msTry (K : PySem.W.Frag) (b : Ms) (cl : List (Value × Nat × MSu)) : Ms := fun ρ μ => match b ρ μ with
  | some (.er e ρ' μ') => hndM K cl e ρ' μ'
  | o => o
end
def suW (cl : List (Value × Nat × MSu)) : List (Value × Nat × WSu) := cl.map fun p => (p.1, p.2.1, fun a cls d => wMS (p.2.2 a cls d))
open Classical in
theorem hndM_run {K : PySem.W.Frag} {G : Ez} {e : Err} {ρ : En} {μ : Mu} : ∀ {cl : List (Value × Nat × MSu)}, Mo.run G (hndM K cl e ρ μ) → wHnd K G (suW cl) e ρ μ
  | [], h => h
  | (c, i, S) :: r, h => by
    unfold hndM at h
    cases ex : exmE K e c with
    | none => rw [ex] at h; exact h.elim
    | some b =>
      rw [ex] at h
      refine ⟨b, ex, ?_⟩
      cases b with
      | false => exact hndM_run h
      | true =>
        rw [if_pos rfl]
        cases e with
        | own C ns l =>
          intro a dd
          have h' : Mo.run G (if ∀ a dd, (S a (.ref C) (some dd) (ρ.set i (some (.t (.er a dd ns l)))) μ).bind (clrM i) = (S 0 (.ref C) (some 0) (ρ.set i (some (.t (.er 0 0 ns l)))) μ).bind (clrM i) then (S 0 (.ref C) (some 0) (ρ.set i (some (.t (.er 0 0 ns l)))) μ).bind (clrM i) else none) := h
          split at h'
          · rename_i q
            rw [← q a dd] at h'
            exact clrM_run h'
          · exact h'.elim
        | bi n =>
          intro a d
          have h' : Mo.run G (if ∀ a d, (S a (.type n) d (ρ.set i (some (.t (.ob a)))) μ).bind (clrM i) = (S 0 (.type n) none (ρ.set i (some (.t (.ob 0)))) μ).bind (clrM i) then (S 0 (.type n) none (ρ.set i (some (.t (.ob 0)))) μ).bind (clrM i) else none) := h
          split at h'
          · rename_i q
            rw [← q a d] at h'
            exact clrM_run h'
          · exact h'.elim
inductive MHds (X : Cx) : List ExceptHandler → List (Value × Nat × MSu) → Prop where
  | nil : MHds X [] []
  | cons {x n : Str} {c : Value} {i : Nat} {ws : MSu} {b₀ : Stmt} {suite : List Stmt} {np pos' : Pos} {hds : List ExceptHandler} {l : List (Value × Nat × MSu)} (hi : X.N[i]? = some n) (hln : X.env.kindOf n = some .local) (hc : Names X x c)
      (hsu : ∀ (a : Addr) (oe : Obj) (cls : Value) (d : Option Addr) (pn : List (Addr × Obj)), Zc cls d oe → (∃ vs, oe.data = .fields vs) → MSs (X.suite a ((a, oe) :: pn)) W0 (b₀ :: suite) (ws a cls d)) (r : MHds X hds l) :
      MHds X (.ExceptHandler (some (.Name x np)) (some n) (b₀ :: suite) pos' :: hds) ((c, i, ws) :: l)
theorem MHds.z {X : Cx} {hds : List ExceptHandler} {cl : List (Value × Nat × MSu)} (h : MHds X hds cl) : ZHds X hds (suW cl) := by
  induction h with
  | nil => exact .nil
  | cons hi hln hc hsu r ih => exact .cons hi hln hc (fun a oe cls d pn h1 h2 => (hsu a oe cls d pn h1 h2).z) ih
section
variable {X : Cx} {W : WX} {e : Expr} {pos : Pos} {g : Sx}
theorem ms_try {body : List Stmt} {h₀ : ExceptHandler} {hds : List ExceptHandler} {cl : List (Value × Nat × MSu)} {sb : Ms} (hs : X.stack = X.env :: X.outer) (hf : X.env.frame = some X.env.locals) (hN : X.N.Nodup) (tk : Takes X W)
    (hb : ∀ (W' : WX) (pn : List (Addr × Obj)) (xe : Value → Shared → Prop), Takes (X.tr pn xe) W' → PassesOwn (model X.prog X.w) X.A X.env xe → MSs (X.tr pn xe) W' body sb) (hh : MHds X (h₀ :: hds) cl) :
    MS X W (.Try body (h₀ :: hds) [] [] pos) (msTry X.K sb cl) :=
  ⟨(zs_try hs hf hN tk (fun W' pn xe h1 h2 => (hb W' pn xe h1 h2).z) hh.z).imp fun G ρ μ h => by
    have h' : Mo.run G (match sb ρ μ with | some (.er e ρ' μ') => hndM X.K cl e ρ' μ' | o => o) := h
    show Mo.run { G with er := wHnd X.K G (suW cl) } (sb ρ μ)
    cases e1 : sb ρ μ with
    | none => rw [e1] at h'; exact h'
    | some o =>
      rw [e1] at h'
      cases o with
      | er e ρ' μ' => exact hndM_run h'
      | _ => exact h'⟩
/-- the field of a caught error -/
def mErrF (C : Addr) (f : Str) (a : Addr) (cls : Value) (d : Option Addr) (g : Sx) : Sx := fun ρ μ => (g ρ μ).bind fun y μ1 => match y, cls, d with
  | .t (.er a' dd' [f'] [t]), .ref C', some dd => if a' = a ∧ dd' = dd ∧ f' = f ∧ C' = C then .ok (.t t) μ1 else .bad
  | _, _, _ => .bad
theorem me_errf {a : Addr} {oe : Obj} {cls : Value} {d : Option Addr} {pn : List (Addr × Obj)} {C fI : Addr} {f x : Str} {z : PySem.Sup.IPos} (T : OwnErr X.prog X.K X.mg x C fI f z) (hz : Zc cls d oe) (hf : ∃ vs, oe.data = .fields vs) (he : ME (X.suite a ((a, oe) :: pn)) W e g)
    (hb : attributeBase e f X.env (eval e X.env) = eval e X.env := by rfl) : ME (X.suite a ((a, oe) :: pn)) W (.Attribute e f pos) (mErrF C f a cls d g) :=
  ⟨(ze_errf T hz hf he.z hb).imp fun ρ μ Q E q => Sr.run_mono (Sr.run_bind q) (fun y μ1 h => by
    match y, cls, d, h with
    | .t (.er a' dd' [f'] [t]), .ref C', some dd, h =>
      have h' : (if a' = a ∧ dd' = dd ∧ f' = f ∧ C' = C then Sr.ok (D.t t) μ1 else .bad).run Q E := h
      split at h'
      · rename_i q
        obtain ⟨rfl, rfl, rfl, rfl⟩ := q
        exact ⟨dd', t, rfl, rfl, rfl, h'⟩
      · exact h'.elim) fun _ _ h => h⟩
end
/-! ### defs -/
def outM : Option Mo → Sr D
  | some (.nx _ μ) => .ok (.t .non) μ
  | some (.rt d μ) => .ok d μ
  | some (.er e _ μ) => .er e μ
  | _ => .bad
def runM (n : Nat) (g : Ms) : Fm := fun ds μ => outM (g (ds.map some ++ List.replicate (n - ds.length) none) μ)
theorem outM_run {o : Option Mo} {Q : D → Mu → Prop} {E : EK} (h : (outM o).run Q E) : Mo.run (ezF Q E) o := by
  cases o with
  | none => exact h
  | some o => cases o <;> exact h
section
variable {P : Program} {w : World} {K : PySem.W.Frag} {mg : Str → Option Value} {base : Heap}
/-- THE RULE for a def that may change the store -/
theorem fun_m {k : Nat} {name qual : Str} {params : Arguments} {body : List Stmt} {scope : Scope} {dvs : List V} {kws : List (Str × V)} {f : Addr} {fd : FuncData} {N ps : List Str} {g : Ms} (Fd : FunD K name qual params body scope dvs kws f fd) (S : FnScope N ps scope)
    (hb : ∀ (cdv : Value) (A : Around) (outer : List PySem.Env) (s : Shared) (H : Hp) (E : XK), Room k (A.deeper (envOfC qual scope s.heap.objs.size f cdv)) →
      MSs (cxOf (L2.CX P w) P w K mg base N qual scope f cdv A outer s H E) (fun c d _ H' => E c d H') body g) :
    FnOk P w K mg base (L2.CX P w) (k + 1) f fd ps (spZ K ps.length (mdE (runM N.length g))) :=
  fun_spec Fd S (fun cdv A outer s H E hr => (hb cdv A outer s H E hr).z) fun ds μ Q E hl h => outM_run h
theorem MD.of {x : Str} {qual : Str} {params : Arguments} {body : List Stmt} {scope : Scope} {f : Addr} {fd : FuncData} {ps : List Str} {k : Nat} {fn : Fm} (F : FunD K x qual params body scope [] [] f fd) (hm : mg x = some (.ref f)) (h : FnOk P w K mg base (L2.CX P w) k f fd ps (spZ K ps.length (mdE fn)))
    (hb : ∀ (kV doc pm : Value) (an : Option Addr) (cdv ct : Value) (us : List Value), us.length = ps.length → bindArgs (PySem.W.fnOf x qual params body scope Value.none kV doc pm an cdv ct) { pos := us } = pure (ps.zip us)) : MD P w K mg base x ps k [] fn :=
  ⟨f, fd, [], [], hm, F.kp, h, F.bindsN hb, .nil, fun _ _ => .nil⟩
/-- a def that turns out to be pure -/
theorem PD.ofM {x : Str} {ps : List Str} {k : Nat} {dts : List T} {f : Fm} {g : List T → Pr T} (h : MD P w K mg base x ps k dts f)
    (hg : ∀ ts, ts.length = ps.length → match g ts with
      | .ok r => ∃ μ', f (ts.map D.t) [] = .ok (.t r) μ'
      | .er e => ∃ μ', f (ts.map D.t) [] = .er e μ'
      | .bad => True) : PD P w K mg base x ps k dts g := by
  obtain ⟨fa, fd, dvs, dsv, h1, h2, h3, h4, h5, h6⟩ := h.ex
  refine ⟨fa, fd, dvs, dsv, h1, h2, FnOk.weak h3 fun vs H Q E hq => spZ_weak (fun ds μ Q E hl ⟨hμ, ts, e, hh⟩ => ?_) hq, h4, h5, h6⟩
  subst hμ e
  have hz := hg ts (by simpa using hl)
  unfold mdE
  cases eg : g ts with
  | bad => rw [eg] at hh; exact hh.elim
  | ok r => rw [eg] at hh hz; obtain ⟨μ', e⟩ := hz; rw [e]; exact hh μ'
  | er r => rw [eg] at hh hz; obtain ⟨μ', e⟩ := hz; rw [e]; exact hh μ'
end
end Zy
set_option Elab.async false
set_option linter.all false
set_option maxRecDepth 100000
set_option maxHeartbeats 400000
/-! ZR: defs that are called where no repr is under way; repr; calls by keywords; freezing. -/
namespace Zy
open PySem PySem.Spec PyProof.Rows L2
/-- room, and no repr under way -/
structure RoomG (k : Nat) (A : Around) : Prop extends Room k A where
  gd : A.guards = some []
theorem RoomG.mono {j k : Nat} {A : Around} (r : RoomG k A) (h : j ≤ k) : RoomG j A := ⟨r.toRoom.mono h, r.gd⟩
theorem RoomG.deeper {k : Nat} {A : Around} (r : RoomG (k + 1) A) (env : PySem.Env) (hg : ∀ A : Around, (A.deeper env).guards = A.guards := by intro _; rfl) : RoomG k (A.deeper env) := ⟨r.toRoom.deeper env, (hg A).trans r.gd⟩
structure FnOkG (P : Program) (w : World) (K : PySem.W.Frag) (mg : Str → Option Value) (base : Heap) (C : CXT) (k : Nat) (f : Addr) (fd : FuncData) (ps : List Str) (sp : Sp) : Prop where
  ln : ∀ vs H Q E, sp vs H Q E → vs.length = ps.length
  go : ∀ (A : Around) (o : List PySem.Env) (s : Shared) (H : Hp) (g : Args) (us : List Value) (vs : List V) (Q : VK) (E : XK), RoomG k A → Env0 P w K mg base A o s H → BindsTo s fd g (ps.zip us) → Vals vs us → sp vs H Q E → codeAny (model P w) A (.call (.ref f) g) (CR C o P w H s Q E) s
section
variable {P : Program} {w : World} {K : PySem.W.Frag} {mg : Str → Option Value} {base : Heap} {C : CXT} {k j : Nat} {f : Addr} {fd : FuncData} {ps N : List Str} {sp sp' : Sp}
theorem FnOkG.of (h : FnOk P w K mg base C k f fd ps sp) : FnOkG P w K mg base C k f fd ps sp := ⟨h.len, fun A o s H g us vs Q E r => h.run A o s H g us vs Q E r.toRoom⟩
theorem FnOkG.weak (h : FnOkG P w K mg base C k f fd ps sp) (q : ∀ vs H Q E, sp' vs H Q E → sp vs H Q E) : FnOkG P w K mg base C k f fd ps sp' :=
  ⟨fun vs H Q E z => h.ln vs H Q E (q vs H Q E z), fun A o s H g us vs Q E r e b v z => h.go A o s H g us vs Q E r e b v (q vs H Q E z)⟩
theorem FnOkG.up (h : FnOkG P w K mg base C k f fd ps sp) (hj : k ≤ j) : FnOkG P w K mg base C j f fd ps sp := ⟨h.ln, fun A o s H g us vs Q E r => h.go A o s H g us vs Q E (r.mono hj)⟩
theorem fnG_of {name qual : Str} {params : Arguments} {body : List Stmt} {sc : Scope} {dV kV doc pm cdv ct oc : Value} {an od : Option Addr} {osl : Array (Option Value)}
    (lk : K.lookup f = some ⟨oc, od, .func (PySem.W.fnOf name qual params body sc dV kV doc pm an cdv ct), osl⟩) (cd : PySem.W.codeIn K cdv qual = true) (S : FnScope N ps sc) (ln : ∀ vs H Q E, sp vs H Q E → vs.length = ps.length)
    (bd : ∀ (A : Around) (o : List PySem.Env) (s : Shared) (H : Hp) (vs : List V) (Q : VK) (E : XK), RoomG k (A.deeper (envOfC qual sc s.heap.objs.size f cdv)) → sp vs H Q E →
      ∃ t, PSs (cxOf C P w K mg base N qual sc f cdv A o s H E) body t ∧ t { nx := fun _ H' => Q .non H', rt := Q } (L2.start N vs) H) :
    FnOkG P w K mg base C (k + 1) f (PySem.W.fnOf name qual params body sc dV kV doc pm an cdv ct) ps sp := by
  refine ⟨ln, fun A o s H g us vs Q E rm e0 bn rv hsp => ?_⟩
  have zl := ln vs H Q E hsp
  have inK : K.In s.heap := e0.mod.kin.keeps (fun b u e => (e0.bs b u e).1)
  have nl : s.heap.NoLimit := e0.mod.nolimit.keeps (fun b u e => (e0.bs b u e).1)
  refine codeAny_call_function rm.toRoom.depth (inK _ _ lk) rfl S.co S.gen rfl (PySem.W.codeRec_of inK cd) (bn _ _ _ _ ?_)
  refine wpAny_newFunctionEnv_cells S.kind (fun ⟨n, v⟩ hy => ?_) (fun env he s1 x => ?_)
  · refine (S.par n (List.of_mem_zip hy).1).imp id fun q => ⟨q, ?_⟩
    exact PySem.W.cellsFrom_some _ _ _ (Or.inl q)
  · subst he
    refine ⟨nl.keeps x.toInCall.keep, codeAny_func ?_⟩
    obtain ⟨t, pt, rd⟩ := bd A o s H vs Q E (rm.deeper _) hsp
    refine wpAny_mono (pt.run [] s1 (L2.start N vs) H _ (inv_start S rm.hd e0 zl rv x) rd) (fun fl s' z => ?_) (fun _ _ z => z)
    cases fl with
    | ret u => obtain ⟨v, σ', H', J, r1, q⟩ := z; exact ⟨v, H', J.os, J.bare, J.base, J.hok, r1, q⟩
    | next => obtain ⟨σ', H', J, q⟩ := z; exact ⟨.non, H', J.os, J.bare, J.base, J.hok, rfl, q⟩
    | brk => obtain ⟨_, _, _, q⟩ := z; exact q.elim
    | cont => obtain ⟨_, _, _, q⟩ := z; exact q.elim
/-- the law's call, from where the program's top has ended -/
theorem law_goG {mb : Str → Option Value} {a : Addr} {x : Str} {s₁ : Shared} {vs : List Value} {ns : List Int} (KX : K.In s₁.heap) (g1 : s₁.heap.Ns mainGlobals mg) (g2 : s₁.heap.Ns builtinsNs mb) (g3 : ∀ y : Str, y ≠ "__name__" → mb y = bootBuiltins y) (g4 : s₁.heap.NoLimit) (g5 : s₁.gens = #[])
    (ha : s₁.heap.get? a = some { cls := .type "list", data := .seq vs.toArray }) (hi : IntsAre vs ns) (hl : ns.length ≤ sizeLine) (rm : RoomG k callerA)
    (F : ∀ b : Heap, K.In b → b.Ns mainGlobals mg → FnOkG P w K mg b C k f fd [x] sp) (bn : ∀ (s : Shared) (u : Value), BindsTo s fd ⟨[u], []⟩ [(x, u)])
    (hs : ∀ H : Hp, Only H → SqL K H a (ns.map V.int) → sp [.ref a] H (fun v _ => v = .bl true) fun _ _ _ => False) (hC : ∀ H e s', C [] H s₁ (fun _ _ _ => False) e s' → False) :
    codeAny (model P w) callerA (.call (.ref f) ⟨[.ref a], []⟩) (fun r s' => r = .ok (.ret (.bool true)) ∧ OldK s₁.heap s'.heap ∧ s'.os = s₁.os ∧ AllBare s'.gens) s₁ := by
  have main : ∀ H : Hp, Only H → SqL K H a (ns.map V.int) → HOk P w H s₁.heap → (∀ b u, H b = some u → b = a ∧ K.lookup a = none) → codeAny (model P w) callerA (.call (.ref f) ⟨[.ref a], []⟩) (fun r s' => r = .ok (.ret (.bool true)) ∧ OldK s₁.heap s'.heap ∧ s'.os = s₁.os ∧ AllBare s'.gens) s₁ := by
    intro H hO hS hk hA
    have bof : ∀ {b : Addr} {o : Obj}, s₁.heap.get? b = some o → H b = none → (hidT s₁.heap H).get? b = some o := fun e n => hidT_get e n
    have nd : ∀ {b : Addr} {o : Obj} {es : Array DictEntry} {ep : Nat}, s₁.heap.get? b = some o → o.data = .dict es ep → H b = none := fun {b o es ep} e d => by
      cases q : H b with
      | none => rfl
      | some u =>
        obtain ⟨rfl, _⟩ := hA b u q
        rw [ha] at e
        cases e
        exact nomatch (show Data.seq vs.toArray _ = Data.dict es ep from d)
    have nK : ∀ {b : Addr} {m : Str → Option Value}, s₁.heap.Ns b m → (hidT s₁.heap H).Ns b m := fun {b m} ⟨o, es, ep, e, d, r⟩ => ⟨o, es, ep, bof e (nd e d), d, r⟩
    have kb : K.In (hidT s₁.heap H) := fun b o e => bof (KX b o e) (by
      cases q : H b with
      | none => rfl
      | some u =>
        obtain ⟨rfl, n⟩ := hA b u q
        rw [n] at e
        cases e)
    have md : Mod K mg (hidT s₁.heap H) := ⟨kb, nK g1, ⟨mb, nK g2, g3⟩, g4.elim fun mc h => ⟨mc, nK h.1, h.2⟩⟩
    have e0 : Env0 P w K mg (hidT s₁.heap H) callerA [] s₁ H := ⟨rfl, md, fun b o e => of_hidT e, Nat.le_of_eq (hidT_size _ _), trivial, (fun b hb => nomatch hb), hk, .of_eq g5⟩
    refine codeAny_mono ((F _ kb (nK g1)).go callerA [] s₁ H ⟨[.ref a], []⟩ [.ref a] [.ref a] _ _ rm e0 (bn s₁ (.ref a)) (.cons rfl .nil) (hs H hO hS)) (fun r s' h => ?_)
    match r, h with
    | .error e, h => exact (hC H e s' h).elim
    | .ok .next, h => exact (show False from h).elim
    | .ok .brk, h => exact (show False from h).elim
    | .ok .cont, h => exact (show False from h).elim
    | .ok (.ret u), h =>
      obtain ⟨v, H', os, bare, un, hk', r', q⟩ := h
      cases (show v = .bl true from q)
      cases (show u = Value.bool true from r')
      refine ⟨rfl, OldK.of_keep (fun b o e => ?_), os, bare⟩
      cases q2 : H b with
      | none => exact un.keep b o e q2 (fun z => nomatch z) (fun z => nomatch z)
      | some y =>
        rcases hO b with z | ⟨ob, xs, z⟩
        · rw [q2] at z; cases z
        · have z2 := un.frzs b ob _ z
          have e1 := (hk b _ z).1
          rw [e] at e1
          cases e1
          exact (hk' b _ z2).1
  cases hk : K.lookup a with
  | some o =>
    have e := KX a o hk
    rw [ha] at e
    cases e
    exact main (fun _ => none) (fun _ => Or.inl rfl) (Or.inr ⟨_, vs.toArray, _, hk, rfl, rfl, rfl, by rw [List.size_toArray, hi.length]; exact hl, by simpa using vals_ints hi⟩) (fun b u z => nomatch (show (none : Option HO) = some u from z)) (fun b u z => nomatch (show (none : Option HO) = some u from z))
  | none =>
    have at1 : ∀ {b : Addr} {u : HO}, (if b = a then some (HO.frz { cls := .type "list", data := .seq vs.toArray } (.lst (ns.map V.int))) else none) = some u → b = a ∧ u = .frz { cls := .type "list", data := .seq vs.toArray } (.lst (ns.map V.int)) := fun {b u} z => by
      by_cases hb : b = a
      · rw [if_pos hb] at z; cases z; exact ⟨hb, rfl⟩
      · rw [if_neg hb] at z; cases z
    refine main (fun b => if b = a then some (.frz { cls := .type "list", data := .seq vs.toArray } (.lst (ns.map V.int))) else none) (fun b => ?_) (Or.inl (Or.inr ⟨_, if_pos rfl⟩)) (fun b u z => ?_) (fun b u z => ⟨(at1 z).1, hk⟩)
    · by_cases hb : b = a
      · exact Or.inr ⟨_, _, if_pos hb⟩
      · exact Or.inl (if_neg hb)
    · obtain ⟨rfl, rfl⟩ := at1 z
      exact ⟨ha, by simpa using hl, vs, _, vals_ints hi, ha⟩
end
/-- the walk from the law's promise -/
theorem walk_goG {l : PySem.W.OpenLaw} {n k : Nat} {q : Program} {loose : List Str} {XP : (Str → Option Value) → Heap → Prop} {YP : World → Heap → Prop} {d : DefRec} {C : World → CXT} {x : Str} (hn : l.most = some n) (hn2 : n ≤ sizeLine) (hdf : d.params.defaults = []) (rm : RoomG k callerA)
    (F : ∀ (w : World) (mg : Str → Option Value) (fa : Addr) (h : Heap), YP w h → h.Ns mainGlobals mg → mg d.name = some (.ref fa) → ∃ (K : PySem.W.Frag) (fd : FuncData) (sp : Sp), K.In h ∧ (∀ (s : Shared) (u : Value), BindsTo s fd ⟨[u], []⟩ [(x, u)]) ∧
      (∀ (H : Hp) (a : Addr) (ns : List Int), ns.length ≤ n → (∀ z ∈ ns, Builtin.Int.intBits z ≤ 1048576) → Only H → SqL K H a (ns.map V.int) → sp [.ref a] H (fun v _ => v = .bl true) fun _ _ _ => False) ∧
      ∀ b : Heap, K.In b → b.Ns mainGlobals mg → FnOkG l.prog w K mg b (C w) k fa fd [x] sp)
    (hC : ∀ (w : World) (H : Hp) (s : Shared) (e : Value) (s' : Shared), C w [] H s (fun _ _ _ => False) e s' → False) : PySem.W.WalkO q loose XP YP l.row.toRowW d [] (fun f vs => PySem.call f vs) := by
  refine Att.attach_callB hn hdf (fun w s0 s₁ mg mb fa o pm cd doc a vs ns G Y ho hd hcd hm hob hi hz hb hg => ?_)
  obtain ⟨K, fd, sp, KX, bn, hs, hF⟩ := F w mg fa _ Y G.T.g hm
  exact law_goG KX G.T.g G.T.b G.T.builtins G.T.nolimit hg hob hi (Nat.le_trans hz hn2) rm hF bn (fun H hO hS => hs H a ns hz hb hO hS) (fun H e s' => hC w H s₁ e s')
/-! ### defs -/
section
variable {P : Program} {w : World} {K : PySem.W.Frag} {mg : Str → Option Value} {base : Heap}
theorem fun_mG {k : Nat} {name qual : Str} {params : Arguments} {body : List Stmt} {scope : Scope} {dvs : List V} {kws : List (Str × V)} {f : Addr} {fd : FuncData} {N ps : List Str} {g : Ms} (Fd : FunD K name qual params body scope dvs kws f fd) (S : FnScope N ps scope)
    (hb : ∀ (cdv : Value) (A : Around) (outer : List PySem.Env) (s : Shared) (H : Hp) (E : XK), RoomG k (A.deeper (envOfC qual scope s.heap.objs.size f cdv)) →
      MSs (cxOf (L2.CX P w) P w K mg base N qual scope f cdv A outer s H E) (fun c d _ H' => E c d H') body g) :
    FnOkG P w K mg base (L2.CX P w) (k + 1) f fd ps (spZ K ps.length (mdE (runM N.length g))) := by
  obtain ⟨oc, od, dV, kV, doc, pm, an, cdv, ct, osl, rfl, lk, hcd, _, _⟩ := Fd.ex
  refine fnG_of lk hcd S (fun vs H Q E ⟨F, β, ds, μ, Qd, Ed, hl, _, r, _⟩ => by rw [r.length, hl]) fun A outer s H vs Q E hr ⟨F, β, ds, μ, Qd, Ed, hl, st, r, q, e, h⟩ => ?_
  refine ⟨_, (hb cdv A outer s H E hr).z.pss, F, β, _, μ, ezF Qd Ed, st, start_slo r, ⟨?_, q, ?_, ?_, ?_⟩, outM_run h⟩
  · exact fun ρ' μ' h' σ' H' F' β' st' s' l' => q (.t .non) μ' h' .non H' F' β' st' s' (@rep_non K F' H')
  · exact fun ρ' μ' h' => h'.elim
  · exact fun ρ' μ' h' => h'.elim
  · exact fun er ρ' μ' h' c d σ' H' F' β' st' s' l' r' => e er μ' h' c d H' F' β' st' s' r'
structure MDG (P : Program) (w : World) (K : PySem.W.Frag) (mg : Str → Option Value) (base : Heap) (x : Str) (ps : List Str) (k : Nat) (dts : List T) (f : Fm) : Prop where
  ex : ∃ fa fd dvs dsv, mg x = some (.ref fa) ∧ PySem.W.keepIn K (.ref fa) = true ∧ FnOkG P w K mg base (L2.CX P w) k fa fd ps (spZ K ps.length (mdE f)) ∧ Binds K fd ps dsv ∧ Vals dvs dsv ∧ ∀ F H, RepL K F H dts dvs
theorem MDG.of {x : Str} {qual : Str} {params : Arguments} {body : List Stmt} {scope : Scope} {f : Addr} {fd : FuncData} {ps : List Str} {k : Nat} {fn : Fm} (F : FunD K x qual params body scope [] [] f fd) (hm : mg x = some (.ref f)) (h : FnOkG P w K mg base (L2.CX P w) k f fd ps (spZ K ps.length (mdE fn)))
    (hb : ∀ (kV doc pm : Value) (an : Option Addr) (cdv ct : Value) (us : List Value), us.length = ps.length → bindArgs (PySem.W.fnOf x qual params body scope Value.none kV doc pm an cdv ct) { pos := us } = pure (ps.zip us)) : MDG P w K mg base x ps k [] fn :=
  ⟨f, fd, [], [], hm, F.kp, h, F.bindsN hb, .nil, fun _ _ => .nil⟩
end
section
variable {X : Cx} {W : WX} {e a b c : Expr} {es : List Expr} {pos p p2 : Pos} {g ga gb : Sx} {gs : Sa} {Cc : CXT} {k : Nat} {f : Addr} {fd : FuncData} {ps : List Str} {sp : Sp} {dvs : List V} {dl : List Value} {x : Str}
theorem run_G {E : L2.St → XK} {pins : List (Addr × Obj)} {σ : L2.St} {H : Hp} {s : Shared} {Q : VK} {us : List Value} {vs : List V} (F : FnOkG X.prog X.w X.K X.mg X.base Cc k f fd ps sp) (rm : RoomG k X.A) (hb : Binds X.K fd ps dl) (hd : Vals dvs dl) (hx : PassesAt Cc X σ (E σ)) (I : Inv X pins σ H s) (r : Vals vs us) (h : sp (vs ++ dvs) H Q (E σ)) :
    wpAny (model X.prog X.w) X.A (call (.ref f) us) (EP X pins σ Q) X.xe s := by
  have rr : Vals (vs ++ dvs) (us ++ dl) := r.append hd
  have zl : (us ++ dl).length = ps.length := rr.length ▸ F.ln _ _ _ _ h
  refine wpAny_call (codeAny_mono (F.go X.A X.stack s H ⟨us, []⟩ (us ++ dl) (vs ++ dvs) Q (E σ) rm I.env0 (hb s us I.kIn zl) rr h) (fun r s' z => ?_))
  match r, z with
  | .error er, z => exact hx pins H s er s' I z
  | .ok (.ret u), z => exact I.after z
theorem pe_G {E : L2.St → XK} {ta : TA} (F : FnOkG X.prog X.w X.K X.mg X.base Cc k f fd ps sp) (rm : RoomG k X.A) (hg : Gl X x) (hm : X.mg x = some (.ref f)) (hk : PySem.W.keepIn X.K (.ref f) = true) (hb : Binds X.K fd ps dl) (hd : Vals dvs dl) (hx : ∀ σ, PassesAt Cc X σ (E σ)) (ha : PA X (e :: es) ta)
    (hdb : (x == ("__debug__" : Str)) = false := by decide) (he : starEach (e :: es) X.env = (false, eval e X.env) :: starEach es X.env := by rfl) (hpl : (backTo pos (starEach es X.env)).any (·.1) = false := by rfl) : PE X (.Call (.Name x p) (e :: es) [] pos) (tCallSD sp dvs E ta) :=
  ⟨fun pins s σ H Q I h => wpAny_Call_Name_kw (ld_glob I hg hm (PySem.W.callWith_K (h₀ := X.base) I.ok.mod.kin hk (thn (ha.run pos pins s σ H _ I h) fun us s1 ⟨vs, H1, I1, r, q⟩ => ⟨I1.kIn, run_G F rm hb hd (hx σ) I1 r q⟩) he hpl) hdb)⟩
theorem me_mdG {j : Nat} {dts : List T} {fm : Fm} (h : MDG X.prog X.w X.K X.mg X.base x ps k dts fm) (hr : RoomG j X.A) (hk : k ≤ j) (tk : Takes X W) (ha : MA X W (e :: es) gs) (hg : Gl X x := by rfl) (hdb : (x == ("__debug__" : Str)) = false := by decide)
    (he : starEach (e :: es) X.env = (false, eval e X.env) :: starEach es X.env := by rfl) (hpl : (backTo pos (starEach es X.env)).any (·.1) = false := by rfl) : ME X W (.Call (.Name x p) (e :: es) [] pos) (mCall fm dts ps.length gs) := by
  obtain ⟨fa, fd, dvs, dsv, h1, h2, h3, h4, h5, h6⟩ := h.ex
  refine ⟨ZE.imp (w := wCallX ps.length (mdE fm) dts (wMA gs)) ⟨PE.imp (pe_G h3 (hr.mono hk) hg h1 h2 h4 h5 (fun σ => passAt tk σ) ha.z.pa hdb he hpl) fun σ H Q ⟨F, β, ρ, μ, Qd, Ed, s, l, q, o, w'⟩ => ⟨F, β, ρ, μ, _, Ed, s, l, fun ds μ1 h vs H' F' β' st s' r' =>
    callX_red (n := ps.length) (E := WE W σ) h6 s' r' (q.stp st) (o.stp st) (fun _ _ _ h => h) h, o, w'⟩⟩ fun ρ μ Q E q => Sr.run_mono (Sr.run_bind q) (fun ds μ1 h => ?_) fun _ _ h => h⟩
  obtain ⟨z, μs, q1, q2⟩ := call_imp h
  exact ⟨z, .inl ⟨μs, q1, q2⟩⟩
/-! ### repr -/
def rRepr (K : PySem.W.Frag) : List V → Hp → VK → Prop := fun xs H Q => ∃ x d, xs = [x] ∧ Dp K H x d ∧ (∃ a, x = .ref a) ∧ d.showable = true ∧ d.hasDict = false ∧ d.depth ≤ 32 ∧ d.shown.length ≤ sizeLine ∧ Q (.str d.shown) H
theorem cr_repr (hg : X.A.guards = some []) (hu : X.A.units + 64 < cLine) : CallR X (.builtin "repr") (rRepr X.K) := by
  intro pins s σ H xs us Q I r ⟨x, d, e, hd, ⟨a, ea⟩, h1, h2, h3, h4, q⟩
  subst e
  subst ea
  obtain ⟨u, rfl, ru⟩ := vals1 r
  obtain ⟨as, r1⟩ := Dp.reads I d _ u hd ru
  obtain rfl : u = Value.ref a := ru
  exact PySem.repr_of_reads' r1 h1 (PyData.noDict_hsm h2) hg (by omega) (fun _ _ e => e) (fun h' u tk hk => ⟨.str d.shown, H, I.kept hk, ⟨u, rfl⟩, q⟩) h4
def dispT : T → Bool
  | .lst _ => true
  | .tup _ => true
  | .scr _ => true
  | _ => false
def reprT (t : T) : Option Str := (toP t).bind fun d => if dispT t = true ∧ d.showable = true ∧ d.hasDict = false ∧ d.depth ≤ 32 ∧ d.shown.length ≤ sizeLine then some d.shown else none
def oRepr : ON
  | [t] => (reprT t).map .str
  | _ => none
theorem k_repr {K : PySem.W.Frag} : ZN K (rRepr K) (foN oRepr) := by
  intro F H ts vs Q Qd hf r ⟨t, h1, h2⟩ q
  match ts, vs, r, h1 with
  | [t0], vs, ⟨x, xr, e, r1, r2⟩, h1 =>
    subst e
    cases (show xr = [] from r2)
    obtain ⟨y, h3, rfl⟩ := map_some (show (reprT t0).map T.str = some t from h1)
    obtain ⟨d, h4, h5⟩ := bind_some h3
    by_cases z : dispT t0 = true ∧ d.showable = true ∧ d.hasDict = false ∧ d.depth ≤ 32 ∧ d.shown.length ≤ sizeLine
    · rw [if_pos z] at h5
      cases h5
      refine ⟨x, d, rfl, now_dp h4 r1, ?_, z.2.1, z.2.2.1, z.2.2.2.1, z.2.2.2.2, pok_here hf q h2 rep_str⟩
      cases t0 with
      | lst l => obtain ⟨a, _, e, _⟩ := r1; exact ⟨a, e⟩
      | tup l => obtain ⟨a, _, e, _⟩ := r1; exact ⟨a, e⟩
      | scr l => obtain ⟨a, _, e, _⟩ := r1; exact ⟨a, e⟩
      | _ => exact nomatch z.1
    · rw [if_neg z] at h5; cases h5
/-! ### freezing -/
theorem ze_fz {w : WEx} (h : ZE X W e w) : ZE X W e (fun ρ μ Q E => w ρ μ (fun d μ1 => Q d μ1 ∨ ∃ i t, d = .r i ∧ (μ1[i]?).bind vwM = some t ∧ szT t ∧ Q (.t t) (μ1.set i .dead)) E) :=
  ⟨PE.imp h.pe fun σ H Q ⟨F, β, ρ, μ, Qd, Ed, s, l, q, o, w'⟩ => ⟨F, β, ρ, μ, _, Ed, s, l, fun d μ1 hd v H' F' β' st s' r' => by
    rcases hd with hd | ⟨i, t, e1, e2, z, hd⟩
    · exact q d μ1 hd v H' F' β' st s' r'
    · subst e1
      obtain ⟨a, ha, rfl⟩ := r'
      obtain ⟨s2, st2⟩ := s'.freeze ha
      exact q _ _ hd _ H' _ β' (st.trans st2) s2 (rep_of_now s' ha e2 fun l hl => by rcases hl with rfl | rfl <;> exact z), o, w'⟩⟩
def mFz (g : Sx) : Sx := fun ρ μ => (g ρ μ).bind fun d μ1 => match frz μ1 d with
  | some q => .ok (.t q.1) q.2
  | none => .bad
theorem me_fz (h : ME X W e g) : ME X W e (mFz g) :=
  ⟨(ze_fz h.z).imp fun ρ μ Q E q => Sr.run_mono (Sr.run_bind q) (fun d μ1 h => by
    cases ef : frz μ1 d with
    | none => rw [ef] at h; exact h.elim
    | some q =>
      rw [ef] at h
      have h' : Q (.t q.1) q.2 := h
      cases d with
      | t t => cases ef; exact .inl h'
      | r i =>
        obtain ⟨t, e1, e2⟩ := bind_some (show ((μ1[i]?).bind vwM).bind (fun t => if szB t = true then some (t, μ1.set i .dead) else none) = some q from ef)
        by_cases z : szB t = true
        · rw [if_pos z] at e2; cases e2; exact .inr ⟨i, t, rfl, e1, szB_ok z, h'⟩
        · rw [if_neg z] at e2; cases e2) fun _ _ h => h⟩
end
end Zy
set_option Elab.async false
set_option linter.all false
set_option maxRecDepth 100000
set_option maxHeartbeats 400000
/-! ZS: calls by keywords. -/
namespace Zy
open PySem PySem.Spec PyProof.Rows L2
def pick {α : Type} (perm : List Nat) (l : List α) : List α := perm.filterMap fun i => l[i]?
theorem pick_rep {K : PySem.W.Frag} {F : Fz} {β : List Addr} {H : Hp} {ds : List D} {vs : List V} (r : RepDs K F β H ds vs) : ∀ perm : List Nat, RepDs K F β H (pick perm ds) (pick perm vs)
  | [] => rfl
  | i :: perm => by
    have ih := pick_rep r perm
    unfold pick at ih ⊢
    rw [List.filterMap_cons, List.filterMap_cons]
    cases e : ds[i]? with
    | none =>
      have e' : vs[i]? = none := by
        rw [List.getElem?_eq_none_iff] at e ⊢
        rw [r.length]; exact e
      rw [e']; exact ih
    | some d =>
      obtain ⟨x, ex, rx⟩ := r.get e
      rw [ex]
      exact ⟨x, _, rfl, rx, ih⟩
theorem vals_get : ∀ {vs : List V} {us : List Value}, Vals vs us → ∀ i : Nat, (vs[i]? = none ∧ us[i]? = none) ∨ ∃ v u, vs[i]? = some v ∧ us[i]? = some u ∧ RelV v u
  | _, _, .nil, i => .inl ⟨by simp, by simp⟩
  | _, _, .cons r h, 0 => .inr ⟨_, _, rfl, rfl, r⟩
  | _, _, .cons r h, i + 1 => by simpa using vals_get h i
theorem pick_vals {vs : List V} {us : List Value} (r : Vals vs us) : ∀ perm : List Nat, Vals (pick perm vs) (pick perm us)
  | [] => .nil
  | i :: perm => by
    have ih := pick_vals r perm
    unfold pick at ih ⊢
    rw [List.filterMap_cons, List.filterMap_cons]
    rcases vals_get r i with ⟨e1, e2⟩ | ⟨v, u, e1, e2, q⟩
    · rw [e1, e2]; exact ih
    · rw [e1, e2]; exact .cons q ih
/-- a def called by keywords alone, named ks; perm: the parameters' places among these -/
structure MDK (P : Program) (w : World) (K : PySem.W.Frag) (mg : Str → Option Value) (base : Heap) (x : Str) (ps ks : List Str) (perm : List Nat) (k : Nat) (f : Fm) : Prop where
  ex : ∃ fa fd, mg x = some (.ref fa) ∧ PySem.W.keepIn K (.ref fa) = true ∧ FnOk P w K mg base (L2.CX P w) k fa fd ps (spZ K ps.length (mdE f)) ∧
    ∀ (s : Shared) (ws : List Value), K.In s.heap → ws.length = ks.length → BindsTo s fd ⟨[], ks.zip ws⟩ (ps.zip (pick perm ws))
theorem MDK.of {P : Program} {w : World} {K : PySem.W.Frag} {mg : Str → Option Value} {base : Heap} {x : Str} {qual : Str} {params : Arguments} {body : List Stmt} {scope : Scope} {f : Addr} {fd : FuncData} {ps ks : List Str} {perm : List Nat} {k : Nat} {fn : Fm} (F : FunD K x qual params body scope [] [] f fd) (hm : mg x = some (.ref f)) (h : FnOk P w K mg base (L2.CX P w) k f fd ps (spZ K ps.length (mdE fn)))
    (hb : ∀ (kV doc pm : Value) (an : Option Addr) (cdv ct : Value) (ws : List Value), ws.length = ks.length → bindArgs (PySem.W.fnOf x qual params body scope Value.none kV doc pm an cdv ct) { pos := [], kw := ks.zip ws } = pure (ps.zip (pick perm ws))) : MDK P w K mg base x ps ks perm k fn := by
  refine ⟨f, fd, hm, F.kp, h, fun s ws X hl => ?_⟩
  obtain ⟨oc, od, dV, kV, doc, pm, an, cdv, ct, osl, rfl, lk, hcd, hD, hK⟩ := F.ex
  rcases hD with ⟨_, rfl⟩ | ⟨e, _⟩
  · exact .of_eq (hb kV doc pm an cdv ct ws hl)
  · exact absurd rfl e
section
variable {X : Cx} {W : WX} {e : Expr} {es : List Expr} {pos p : Pos} {g : Sx} {gs : Sa} {k : Nat} {x : Str} {ps ks : List Str} {perm : List Nat} {kws : List Keyword} {wa wr : WAr} {we : WEx}
structure ZKw (X : Cx) (W : WX) (kws : List Keyword) (w : WAr) : Prop where
  pk : PK X kws (tAr X.K W w)
theorem PK.imp {t t' : TA} (h : PK X kws t) (f : ∀ σ H Q, t' σ H Q → t σ H Q) : PK X kws t' := ⟨fun pos pins s σ H Q I q => h.run pos pins s σ H Q I (f _ _ _ q)⟩
theorem zk_nil : ZKw X W [] wNil := ⟨PK.imp pk_nil fun σ H Q ⟨F, β, ρ, μ, Qd, Ed, s, l, q, e, w⟩ => q [] μ w [] H F β .refl s rfl⟩
theorem zk_cons {nm : Option Str} {kp : Pos} (he : ZE X W e we) (hr : ZKw X W kws wr) : ZKw X W (⟨nm, e, kp⟩ :: kws) (wCons we wr) :=
  ⟨PK.imp (pk_cons he.pe hr.pk) fun σ H Q ⟨F, β, ρ, μ, Qd, Ed, s, l, q, e, w⟩ => ⟨F, β, ρ, μ, _, Ed, s, l, fun d μ1 w1 v H1 F1 β1 st s1 r1 =>
    ⟨F1, β1, ρ, μ1, _, Ed, s1, l.stp st, fun ds μ2 w2 vs H2 F2 β2 st2 s2 r2 => q (d :: ds) μ2 w2 (v :: vs) H2 F2 β2 (st.trans st2) s2 ⟨v, vs, rfl, r1.stp st2, r2⟩, e.stp st, w1⟩, e, w⟩⟩
structure MKw (X : Cx) (W : WX) (kws : List Keyword) (g : Sa) : Prop where
  z : ZKw X W kws (wMA g)
theorem mk_nil : MKw X W [] mNil := ⟨⟨zk_nil.pk⟩⟩
theorem mk_cons {nm : Option Str} {kp : Pos} (ha : ME X W e g) (hr : MKw X W kws gs) : MKw X W (⟨nm, e, kp⟩ :: kws) (mCons g gs) :=
  ⟨⟨PK.imp (zk_cons ha.z hr.z).pk fun σ H Q ⟨F, β, ρ, μ, Qd, Ed, s, l, q, o, h⟩ => ⟨F, β, ρ, μ, Qd, Ed, s, l, q, o, Sr.run_mono (Sr.run_bind h) (fun t μ1 h => Sr.run_mono (Sr.run_bind h) (fun l μ2 h => h) fun _ _ h => h) fun _ _ h => h⟩⟩⟩
def mCallK (f : Fm) (perm : List Nat) (m n : Nat) (gs : Sa) : Sx := fun ρ μ => (gs ρ μ).bind fun ds0 μ1 => if ds0.length = m then (if (pick perm ds0).length + ([] : List T).length = n then (match sub μ1 (refs (pick perm ds0)) with
  | none => .bad
  | some μs => match f ((pick perm ds0).map (ren (refs (pick perm ds0))) ++ ([] : List T).map D.t) μs with
    | .bad => .bad
    | .ok d μ' => backM μ1 (refs (pick perm ds0)) d μ'
    | .er e μ' => if (refs (pick perm ds0)).length ≤ μ'.length ∧ allP (μ'.take (refs (pick perm ds0)).length) = true then .er e (put μ1 (refs (pick perm ds0)) (μ'.take (refs (pick perm ds0)).length)) else .bad) else .bad) else .bad
theorem me_mdK {j : Nat} {f : Fm} (h : MDK X.prog X.w X.K X.mg X.base x ps ks perm k f) (hr : Room j X.A) (hk : k ≤ j) (tk : Takes X W) (ha : MKw X W kws gs) (hg : Gl X x := by rfl) (hall : (backToKw pos (keywordEach kws X.env)).all (·.1.isSome) = true := by rfl) (hks : (backToKw pos (keywordEach kws X.env)).filterMap (·.1) = ks := by rfl)
    (hdb : (x == ("__debug__" : Str)) = false := by decide) (hpl : ((backTo pos (starEach [] X.env)).any (·.1) || (backToKw pos (keywordEach kws X.env)).any (·.1.isNone)) = false := by rfl) : ME X W (.Call (.Name x p) [] kws pos) (mCallK f perm ks.length ps.length gs) := by
  obtain ⟨fa, fd, h1, h2, h3, h4⟩ := h.ex
  refine ⟨⟨⟨fun pins s σ H Q I hq => ?_⟩⟩⟩
  refine wpAny_Call_Name_kw (ld_glob I hg h1 ?_ hdb)
  refine PySem.W.callWith_KW0 (h₀ := X.base) I.ok.mod.kin h2 hall (thn (ha.z.pk.run pos pins s σ H (fun zs H2 => zs.length = ks.length ∧ spZ X.K ps.length (mdE f) (pick perm zs ++ []) H2 Q (WE W σ)) I ?_) fun ws s2 ⟨zs, H2, I2, rz, zl, q2⟩ => ⟨I2.kIn, ?_⟩) hpl
  · obtain ⟨F, β, ρ, μ, Qd, Ed, st, l, q, o, w'⟩ := hq
    refine ⟨F, β, ρ, μ, _, Ed, st, l, fun ds μ1 hd vs H' F' β' st' s' r' => ?_, o, Sr.run_bind w'⟩
    have hd' : (if ds.length = ks.length then (if (pick perm ds).length + ([] : List T).length = ps.length then (match sub μ1 (refs (pick perm ds)) with
      | none => Sr.bad
      | some μs => match f ((pick perm ds).map (ren (refs (pick perm ds))) ++ ([] : List T).map D.t) μs with
        | .bad => .bad
        | .ok d μ' => backM μ1 (refs (pick perm ds)) d μ'
        | .er e μ' => if (refs (pick perm ds)).length ≤ μ'.length ∧ allP (μ'.take (refs (pick perm ds)).length) = true then .er e (put μ1 (refs (pick perm ds)) (μ'.take (refs (pick perm ds)).length)) else .bad) else .bad) else .bad).run Qd Ed := hd
    by_cases z : ds.length = ks.length
    · rw [if_pos z] at hd'
      refine ⟨by rw [r'.length]; exact z, ?_⟩
      obtain ⟨z2, μs, q1, q3⟩ := call_imp (dts := []) hd'
      exact callX_red (n := ps.length) (E := WE W σ) (dvs' := []) (fun _ _ => .nil) s' (pick_rep r' perm) (q.stp st') (o.stp st') (fun _ _ _ h => h) ⟨z2, .inl ⟨μs, q1, q3⟩⟩
    · rw [if_neg z] at hd'; exact hd'.elim
  · rw [hks]
    have rr := pick_vals rz perm
    rw [List.append_nil] at q2
    refine wpAny_call (codeAny_mono (h3.run X.A X.stack s2 H2 ⟨[], ks.zip ws⟩ (pick perm ws) (pick perm zs) Q (WE W σ) (hr.mono hk) I2.env0 (h4 s2 ws I2.kIn (rz.length.symm.trans zl)) rr q2) (fun r s' z => ?_))
    match r, z with
    | .error er, z => exact passAt tk σ pins H2 s2 er s' I2 z
    | .ok (.ret u), z => exact I2.after z
end
end Zy
set_option Elab.async false
set_option linter.all false
set_option maxRecDepth 100000
/-! Fn: isinstance of a def's object. -/
namespace PySem
open Sem (wp)
namespace F
theorem lkf_cls : typeLookup (.type "function") "__class__" = pure (some (.builtin "object.__class__")) := by rw [typeLookup_type, builtinLookup_eq_fast]; kernel_rfl
theorem slotf_ga : Slot "function" "__getattribute__" "object.__getattribute__" :=
  Slot.of (owner := "object") (n := "__getattribute__") (by rw [typeLookup_type, builtinLookup_eq_fast]; kernel_rfl) (by kernel_rfl) (by kernel_rfl) (by kernel_rfl) (.inl (by kernel_rfl)) (by rw [isSubtype_type]; kernel_rfl)
theorem subf_own : isSubtype (.type "function") (.type (".".intercalate ("object.__class__".cutAt '.').dropLast)) = pure true := by
  rw [owner_object_class, isSubtype_type]; kernel_rfl
end F
section
variable {prog : Program} {w : World} {A : Around} {E : Value → Shared → Prop} {h : Heap} {g : Array GenState} {d : Drawn} {t : Nat} {os : OsState} {a : Addr} {ob dd : Option Addr} {dt : Data} {sl : Array (Option Value)}
theorem fn_get {R : Result → Shared → Prop} (hx : h.get? a = some ⟨.type "function", dd, dt, sl⟩) (hq : R (.ok (.ret (.type "function"))) ⟨h, g, d, t, os⟩) :
    codeAny (model prog w) A (.call (.builtin "getset_descriptor.__get__") ⟨[.builtin "object.__class__", .ref a, .type "function"], []⟩) R ⟨h, g, d, t, os⟩ := by
  have hT : (⟨h, g, d, t, os⟩ : Shared).TypeIs (.ref a) "function" := ⟨_, hx, rfl⟩
  have hT5 : (⟨h, g, d, t, os⟩ : Shared).TypeIs (.builtin "object.__class__") "getset_descriptor" := F.typeOf_object_class
  have f8 := F.subf_own
  refine codeAny_call_builtin F.slot_gs_get.plain F.entry_gs_get (F.slot_gs_get.check _ _ _ _ _ _ _ _ hT5 (F.args_gs_get _ _ _) ?_)
  repeat (any_goals (first | assumption | wp_step))
  refine ⟨Code.quiet_builtin _ (by decide +kernel), codeAny_builtin F.entry_object_class ?_⟩
  repeat (any_goals (first | assumption | wp_step))
theorem fn_entry {tk : Tok} {Q : Fin → Shared → Prop} (hx : h.get? a = some ⟨.type "function", dd, dt, sl⟩) (hq : Q (.done (.ret (.type "function"))) ⟨h, g, d, t, os⟩) :
    wpAny (model prog w) A (Builtin.«object.__getattribute__» ⟨[.ref a, .str "__class__" tk], []⟩) Q E ⟨h, g, d, t, os⟩ := by
  have hT : (⟨h, g, d, t, os⟩ : Shared).TypeIs (.ref a) "function" := ⟨_, hx, rfl⟩
  have hT5 : (⟨h, g, d, t, os⟩ : Shared).TypeIs (.builtin "object.__class__") "getset_descriptor" := F.typeOf_object_class
  have f4 := F.lkf_cls
  have f5 := F.typeOf_object_class
  have f6 := F.slot_gs_get.lookup
  have f7 := F.slot_gs_set.lookup
  repeat (any_goals (first | assumption | wp_step))
  refine fn_get hx ?_
  repeat (any_goals (first | assumption | wp_step))
theorem fn_by {tk : Tok} {Q : Value → Shared → Prop} (hx : h.get? a = some ⟨.type "function", dd, dt, sl⟩) (hq : Q (.type "function") ⟨h, g, d, t, os⟩) : wpAny (model prog w) A (getAttrBy (.ref a) (.str "__class__" tk) false) Q E ⟨h, g, d, t, os⟩ := by
  have hT : (⟨h, g, d, t, os⟩ : Shared).TypeIs (.ref a) "function" := ⟨_, hx, rfl⟩
  have f2 := F.slotf_ga.lookup
  have f3 := F.slotf_ga.bind (.ref a)
  repeat (any_goals (first | assumption | wp_step))
  refine codeAny_call_builtin F.slotf_ga.plain F.entry_object_getattribute (F.slotf_ga.check _ _ _ _ _ _ _ _ hT (F.args_object_getattribute_2 _ _) (fn_entry hx ?_))
  repeat (any_goals (first | assumption | wp_step))
theorem fn_attr {Q : Option Value → Shared → Prop} (hx : h.get? a = some ⟨.type "function", dd, dt, sl⟩) (hq : Q (some (.type "function")) ⟨h, g, d, t + 1, os⟩) : wpAny (model prog w) A (getAttr? (.ref a) "__class__") Q E ⟨h, g, d, t, os⟩ := by
  unfold getAttr? getAttrBy?
  repeat (any_goals (first | assumption | with_reducible apply fn_by hx | wp_step))
end
end PySem
namespace PySem.W
theorem kitx_fn {K : Frag} {a : Addr} : KitX K (.ref a) (.type "function") (KitAt a "function") := kitx_of kitAt_ty (fun {_ _ _ _ _ s} p k => by obtain ⟨h, g, d, t, os⟩ := s; obtain ⟨⟨oc, od, dt, sl⟩, h1, h2⟩ := p; cases h2; exact fn_attr h1 k)
end PySem.W
set_option Elab.async false
set_option linter.all false
set_option maxRecDepth 100000
/-! Fe: a def's object is equal to itself. -/
namespace PySem
open Sem (wp)
namespace F
theorem slotf_eq : Slot "function" "__eq__" "object.__eq__" :=
  Slot.of (owner := "object") (n := "__eq__") (by rw [typeLookup_type, builtinLookup_eq_fast]; kernel_rfl) (by kernel_rfl) (by kernel_rfl) (by kernel_rfl) (.inl (by kernel_rfl)) (by rw [isSubtype_type]; kernel_rfl)
end F
section
variable {prog : Program} {w : World} {A : Around} {E : Value → Shared → Prop} {h : Heap} {g : Array GenState} {d : Drawn} {t : Nat} {os : OsState} {a : Addr} {ob dd : Option Addr} {dt : Data} {sl : Array (Option Value)}
theorem fn_objeq {Q : Value → Shared → Prop} (hx : h.get? a = some ⟨.type "function", dd, dt, sl⟩) (hq : Q (.bool true) ⟨h, g, d, t, os⟩) : wpAny (model prog w) A (call (.builtin "object.__eq__") [.ref a, .ref a]) Q E ⟨h, g, d, t, os⟩ :=
  wpAny_call (codeAny_call_builtin F.slotf_eq.plain F.cmpEntry_eq (F.slotf_eq.check _ _ _ _ _ _ _ _ (show (⟨h, g, d, t, os⟩ : Shared).TypeIs (.ref a) "function" from ⟨_, hx, rfl⟩) (F.cmpArgs_eq _ _) (objEq_entry_same hq)))
theorem fn_eq {Q : Value → Shared → Prop} (hx : h.get? a = some ⟨.type "function", dd, dt, sl⟩) (hu : A.units < cLine) (hq : Q (.bool true) ⟨h, g, d, t, os⟩) : wpAny (model prog w) A (compareOp .Eq (.ref a) (.ref a)) Q E ⟨h, g, d, t, os⟩ := by
  have hT : (⟨h, g, d, t, os⟩ : Shared).TypeIs (.ref a) "function" := ⟨_, hx, rfl⟩
  have f1 := F.slotf_eq.lookup
  have f2 := F.slotf_eq.bind (.ref a)
  show wpAny _ _ (richCompare .Eq (.ref a) (.ref a)) _ _ _
  simp only [richCompare, cmpInfo_Eq, oneThing_ref]
  refine wpAny_holding (wpAny_bind (wpAny_cRoomFor hu (wpAny_bind (wpAny_typeOf hT (wpAny_bind (wpAny_typeOf hT ?_))))))
  rw [if_neg (by decide)]
  refine wpAny_bind (wpAny_pure ?_)
  rw [if_neg (by decide)]
  refine wpAny_bind (wpAny_tryCompare_slot hT F.slotf_eq (fn_objeq hx (And.intro (by intro e; cases e) ?_)))
  exact wpAny_pure hq
end
end PySem
set_option Elab.async false
set_option linter.all false
set_option maxRecDepth 100000
set_option maxHeartbeats 400000
/-! ZT: defs and instances as things: isinstance, fields, ==. -/
namespace Zy
open PySem PySem.Spec PyProof.Rows L2
/-! ### isinstance -/
/-- what is asked of a class, so that its instances are things -/
structure InsF (K : PySem.W.Frag) (C : Addr) : Prop where
  cl : Cls K C
  c1 : PySem.W.findIn K (.ref C) "__class__" = some (some (.builtin "object.__class__"))
  c2 : PySem.W.specialIn K (.builtin "object.__class__") "__get__" = some (some (.builtin "getset_descriptor.__get__"))
  c3 : PySem.W.takesIn K (.builtin "object.__class__") = some true
  c4 : PySem.W.mroIn K C (.type "object") = some true
def isFnT (K : PySem.W.Frag) (a : Addr) : Bool := match K.lookup a with
  | some ⟨.type "function", _, _, _⟩ => true
  | _ => false
theorem isFnT_ok {K : PySem.W.Frag} {a : Addr} (h : isFnT K a = true) : ∃ dd dt sl, K.lookup a = some ⟨.type "function", dd, dt, sl⟩ := by
  unfold isFnT at h
  split at h
  · rename_i dd dt sl e; exact ⟨dd, dt, sl, e⟩
  · cases h
open Classical in
noncomputable def tyV (K : PySem.W.Frag) : T → Option Value
  | .ob a => if isFnT K a = true then some (.type "function") else none
  | .ins C _ _ => if InsF K C then some (.ref C) else none
  | t => (tyT t).map .type
def clsV1 : T → Option Value
  | .ty n => some (.type n)
  | .ob a => some (.ref a)
  | _ => none
def clsVs : List T → Option (List Value)
  | [] => some []
  | t :: l => (clsV1 t).bind fun v => (clsVs l).map (v :: ·)
noncomputable def isiV (K : PySem.W.Frag) (x c : T) : Option Bool := (tyV K x).bind fun t => match c with
  | .tup l => (clsVs l).bind fun us => PySem.W.kitAny K t us
  | c => (clsV1 c).bind fun u => PySem.W.kitOne K t u
noncomputable def oIsiX (K : PySem.W.Frag) : ON
  | [x, c] => (isiV K x c).map .bl
  | _ => none
/-- a value whose type is t -/
def TyY (K : PySem.W.Frag) (H : Hp) (v : V) (t : Value) : Prop := TyX K H v t ∨ ∃ a, v = .ref a ∧ isFnT K a = true ∧ t = .type "function"
theorem kitY {X : Cx} {pins : List (Addr × Obj)} {σ : L2.St} {H : Hp} {s : Shared} {v : V} {u t : Value} (I : Inv X pins σ H s) (r : RelV v u) (h : TyY X.K H v t) : ∃ P : Heap → Prop, PySem.W.KitX X.K u t P ∧ P s.heap ∧ u ≠ .builtin "__main__.__loader__#opaque" := by
  rcases h with h | ⟨a, rfl, h, rfl⟩
  · exact kit_of I r h
  · obtain ⟨dd, dt, sl, e⟩ := isFnT_ok h
    cases (show u = Value.ref a from r)
    exact ⟨_, PySem.W.kitx_fn, ⟨_, I.kIn _ _ e, rfl⟩, fun z => nomatch z⟩
def rIsY (K : PySem.W.Frag) : List V → Hp → VK → Prop := fun xs H Q => ∃ (x c : V) (t : Value) (b : Bool), xs = [x, c] ∧ TyY K H x t ∧ Q (.bl b) H ∧
  ((∃ u, ClsV c u ∧ PySem.W.kitOne K t u = some b) ∨ (∃ tp cs us, c = .ref tp ∧ H tp = some (.tup cs) ∧ Paired ClsV cs us ∧ PySem.W.kitAny K t us = some b) ∨
    ∃ (tp : Addr) (dd : Option Addr) (us : List Value) (n : Nat) (sl : Array (Option Value)), c = .ref tp ∧ K.lookup tp = some ⟨.type "tuple", dd, .seq us.toArray n, sl⟩ ∧ PySem.W.kitAny K t us = some b)
theorem call_isY {X : Cx} : CallR X (.builtin "isinstance") (rIsY X.K) := by
  intro pins s σ H xs us Q I r ⟨x, c, t, b, e0, ty, q, hh⟩
  subst e0
  obtain ⟨u1, u2, rfl, r1, r2⟩ := vals2 r
  obtain ⟨P, Z, p, hx⟩ := kitY I r1 ty
  rcases hh with ⟨u, k, e⟩ | ⟨tp, cs, ws, rfl, hT, k, e⟩ | ⟨tp, dd, ws, n, sl, rfl, lk, e⟩
  · have e2 := k.eq r2
    subst e2
    exact PySem.W.kia_one Z I.kIn p e hx fun tk => ⟨.bl b, H, I.tok tk, rfl, q⟩
  · cases (show u2 = Value.ref tp from r2)
    obtain ⟨_, its, rv, o, h1, h2, n, h3⟩ := (show ObjOk X.prog X.w H s.heap tp (.tup cs) from I.hok tp _ hT)
    have e3 := ClsV.all k rv
    subst e3
    obtain ⟨oc, od, dt, sl⟩ := o
    simp only at h2 h3
    subst h2 h3
    exact PySem.W.kia_tup Z I.kIn p h1 e hx fun tk => ⟨.bl b, H, I.tok tk, rfl, q⟩
  · cases (show u2 = Value.ref tp from r2)
    exact PySem.W.kia_tup Z I.kIn p (I.kIn _ _ lk) e hx fun tk => ⟨.bl b, H, I.tok tk, rfl, q⟩
section
variable {K : PySem.W.Frag}
theorem ite_some {p : Prop} {_ : Decidable p} {α : Type} {a b : α} (h : (if p then some a else none) = some b) : p ∧ a = b := by
  by_cases z : p
  · rw [if_pos z] at h; cases h; exact ⟨z, rfl⟩
  · rw [if_neg z] at h; cases h
theorem ite_opt {p : Prop} {_ : Decidable p} {α : Type} {o : Option α} {b : α} (h : (if p then o else none) = some b) : p ∧ o = some b := by
  by_cases z : p
  · rw [if_pos z] at h; exact ⟨z, h⟩
  · rw [if_neg z] at h; cases h
theorem tyV_now {F : Fz} {H : Hp} {t : T} {u : Value} {v : V} (h : tyV K t = some u) (r : Now K F H t v) : TyY K H v u := by
  cases t with
  | ob a =>
    simp only [tyV] at h
    obtain ⟨z, rfl⟩ := ite_some h
    have r' : Rep K F H (.ob a) v := r
    unfold Rep at r'
    exact .inr ⟨a, r', z, rfl⟩
  | ins C ns l =>
    simp only [tyV] at h
    obtain ⟨z, rfl⟩ := ite_some h
    obtain ⟨a, dx, xs, rfl, e, _⟩ := r
    exact .inl (.base (.ins e z.cl z.c1 z.c2 z.c3 z.c4))
  | _ =>
    simp only [tyV] at h
    obtain ⟨n, h1, rfl⟩ := map_some h
    exact .inl (tyX_now h1 r)
theorem clsV1_rep {F : Fz} {H : Hp} {t : T} {u : Value} {v : V} (h : clsV1 t = some u) (r : Rep K F H t v) : ClsV v u := by
  cases t with
  | ty n => cases h; rw [rep_tyE r]; exact .ty n
  | ob a =>
    cases h
    unfold Rep at r
    subst r
    exact .own a
  | _ => cases h
theorem clsVs_rep {F : Fz} {H : Hp} : ∀ {l : List T} {us : List Value} {xs : List V}, clsVs l = some us → RepL K F H l xs → Paired ClsV xs us
  | [], us, xs, h, r => by cases h; unfold RepL at r; subst r; exact .nil
  | t :: l, us, xs, h, r => by
    obtain ⟨v, h1, h2⟩ := bind_some (show (clsV1 t).bind (fun v => (clsVs l).map (v :: ·)) = some us from h)
    obtain ⟨ur, h3, rfl⟩ := map_some h2
    unfold RepL at r
    obtain ⟨x, xr, rfl, r1, r2⟩ := r
    exact .cons (clsV1_rep h1 r1) (clsVs_rep h3 r2)
theorem k_isX : ZN K (rIsY K) (foN (oIsiX K)) := by
  intro F H ts vs Q Qd hf r ⟨t, h1, h2⟩ q
  match ts, h1 with
  | [x, c], h1 =>
    obtain ⟨b, h3, rfl⟩ := map_some (show (isiV K x c).map T.bl = some t from h1)
    obtain ⟨ty, h4, h5⟩ := bind_some h3
    obtain ⟨v, w, rfl, r1, r2⟩ := nowL2 r
    refine ⟨v, w, ty, b, rfl, tyV_now h4 r1, pok_here hf q h2 rep_bl, ?_⟩
    cases c with
    | tup l =>
      obtain ⟨us, h6, h7⟩ := bind_some (show (clsVs l).bind (fun us => PySem.W.kitAny K ty us) = some b from h5)
      obtain ⟨a, xs, rfl, e, rl⟩ := r2
      have pr := clsVs_rep h6 rl
      rcases e with e | ⟨o, its, n, e, ec, ed, _, vv⟩
      · exact .inr (.inl ⟨a, xs, us, rfl, e, pr, h7⟩)
      · have e3 := ClsV.all pr vv
        obtain ⟨cls, dd, data, sl⟩ := o
        cases ec
        cases ed
        refine .inr (.inr ⟨a, dd, its.toList, n, sl, rfl, by simpa using e, ?_⟩)
        rw [e3]; exact h7
    | ty n =>
      obtain ⟨u, h6, h7⟩ := bind_some (show (clsV1 (.ty n)).bind (fun u => PySem.W.kitOne K ty u) = some b from h5)
      exact .inl ⟨u, clsV1_rep (K := K) (F := F) (H := H) h6 r2, h7⟩
    | ob n =>
      obtain ⟨u, h6, h7⟩ := bind_some (show (clsV1 (.ob n)).bind (fun u => PySem.W.kitOne K ty u) = some b from h5)
      exact .inl ⟨u, clsV1_rep (K := K) (F := F) (H := H) h6 r2, h7⟩
    | _ =>
      obtain ⟨u, h6, h7⟩ := bind_some h5
      cases h6
/-! ### fields -/
open Classical in
noncomputable def oFld (K : PySem.W.Frag) (f : Str) : O1
  | .ins C ns l => if Cls K C ∧ NoAttr K C f then (ns.zip l).lookup f else none
  | _ => none
end
section
variable {X : Cx} {W : WX} {e : Expr} {pos : Pos} {g : Gx} {m : Sx} {f : Str}
theorem zip_look {K : PySem.W.Frag} {F : Fz} {H : Hp} : ∀ {ns : List Str} {l : List T} {xs : List V} {t : T}, RepL K F H l xs → (ns.zip l).lookup f = some t → ∃ x, (ns.zip xs).lookup f = some x ∧ Rep K F H t x
  | [], l, xs, t, r, h => by simp at h
  | n :: ns, [], xs, t, r, h => by simp at h
  | n :: ns, t0 :: l, xs, t, r, h => by
    unfold RepL at r
    obtain ⟨x, xr, rfl, r1, r2⟩ := r
    rw [List.zip_cons_cons, List.lookup_cons] at h ⊢
    cases e : f == n with
    | true => rw [e] at h; cases h; exact ⟨x, by simp, r1⟩
    | false =>
      rw [e] at h
      obtain ⟨y, h1, h2⟩ := zip_look r2 h
      exact ⟨y, by simpa using h1, h2⟩
def wFld (K : PySem.W.Frag) (f : Str) (we : WEx) : WEx := fun ρ μ Q E => we ρ μ (fun d μ1 => ∃ t C ns l x, vw μ1 d = some t ∧ t = .ins C ns l ∧ Cls K C ∧ NoAttr K C f ∧ (ns.zip l).lookup f = some x ∧ Q (.t x) μ1) E
theorem ze_fld {we : WEx} (he : ZE X W e we) (hb : attributeBase e f X.env (eval e X.env) = eval e X.env := by rfl) : ZE X W (.Attribute e f pos) (wFld X.K f we) :=
  ⟨PE.imp (pe_fld he.pe hb) fun σ H Q ⟨F, β, ρ, μ, Qd, Ed, s, l, q, o, w⟩ => ⟨F, β, ρ, μ, _, Ed, s, l, fun d μ1 ⟨t, C, ns, tl, x, h1, h2, h3, h4, h5, h6⟩ v H1 F1 β1 st s1 r1 => by
    subst h2
    obtain ⟨a, dx, xs, rfl, e, z, rl⟩ := vw_now s1 r1 h1
    obtain ⟨y, ey, ry⟩ := zip_look rl h5
    exact ⟨a, C, dx, _, y, rfl, e, h3, h4, ey, q _ μ1 h6 y H1 F1 β1 st s1 ry⟩, o, w⟩⟩
theorem oFld_some {K : PySem.W.Frag} {t x : T} (h : oFld K f t = some x) : ∃ C ns l, t = .ins C ns l ∧ Cls K C ∧ NoAttr K C f ∧ (ns.zip l).lookup f = some x := by
  cases t with
  | ins C ns l =>
    simp only [oFld] at h
    obtain ⟨z, h⟩ := ite_opt h
    exact ⟨C, ns, l, rfl, z.1, z.2, h⟩
  | _ => cases h
theorem ge_fld (he : GV X W e g) (hb : attributeBase e f X.env (eval e X.env) = eval e X.env := by rfl) : GE X W (.Attribute e f pos) (g1 (oFld X.K f) g) :=
  ⟨(ze_fld he.z hb).imp fun ρ μ Q E q => Pr.run_mono (Pr.run_bind q) (fun t h d hd => by
    obtain ⟨r, h1, h2⟩ := Pr.run_of h
    obtain ⟨C, ns, l, h3, h4, h5, h6⟩ := oFld_some h1
    exact ⟨t, C, ns, l, r, hd, h3, h4, h5, h6, h2⟩) fun _ h => h⟩
theorem me_fld (he : ME X W e m) (hb : attributeBase e f X.env (eval e X.env) = eval e X.env := by rfl) : ME X W (.Attribute e f pos) (m1 (oFld X.K f) m) :=
  ⟨(ze_fld he.z hb).imp fun ρ μ Q E q => Sr.run_mono (Sr.run_bind q) (fun d μ1 h => by
    obtain ⟨r, h1, h2⟩ := Sr.run_of h
    obtain ⟨t, h3, h4⟩ := bind_some h1
    obtain ⟨x, h5, rfl⟩ := map_some h4
    obtain ⟨C, ns, l, h6, h7, h8, h9⟩ := oFld_some h5
    exact ⟨t, C, ns, l, x, h3, h6, h7, h8, h9, h2⟩) fun _ _ h => h⟩
end
/-! ### == of things that are the same -/
section
variable {X : Cx}
/-- a class's own ==, as a function: it says True of the same thing twice -/
structure EqF (P : Program) (w : World) (K : PySem.W.Frag) (mg : Str → Option Value) (base : Heap) (C : Addr) (k : Nat) (f : List T → Pr T) : Prop where
  ex : ∃ fa fd ps, PySem.W.findIn K (.ref C) "__eq__" = some (some (.ref fa)) ∧ PySem.W.isFn K (.ref fa) = true ∧ ps.length = 2 ∧ Binds K fd ps [] ∧ FnOk P w K mg base (L2.CX P w) k fa fd ps (spZ K ps.length (purE f))
/-- two things that are represented, by one tree t of the class C -/
def RSame (K : PySem.W.Frag) (C : Addr) (f : List T → Pr T) (a b : Addr) (H : Hp) : Prop := ∃ (F : Fz) (ns : List Str) (l : List T), (∀ c, F c → H c ≠ none) ∧ Rep K F H (.ins C ns l) (.ref a) ∧ Rep K F H (.ins C ns l) (.ref b) ∧ f [.ins C ns l, .ins C ns l] = .ok (.bl true)
theorem eqF_rc {C : Addr} {k : Nat} {f : List T → Pr T} (h : EqF X.prog X.w X.K X.mg X.base C k f) (tk : Takes X W0) : RcG X k (DIns C (RSame X.K C f)) := by
  obtain ⟨fa, fd, ps, h1, h2, h3, h4, h5⟩ := h.ex
  refine rcG_ins (E := fun _ _ _ => False) (FnOk.imp h5 fun vs H Q E hh => ?_) h1 h2 h4 (passes_call tk fun _ _ _ _ h => h)
  obtain ⟨a, b, rfl, ⟨F, ns, l, hf, r1, r2, e⟩, q⟩ := hh
  refine ⟨F, [], [.t (.ins C ns l), .t (.ins C ns l)], [], fun d μ' => d = .t (.bl true), fun _ _ => False, by rw [h3]; rfl, ⟨rfl, List.nodup_nil, fun i a m e => by simp at e, hf, fun a h => nomatch h⟩, ⟨_, _, rfl, r1, _, _, rfl, r2, rfl⟩, ?_, fun _ _ z => z.elim, rfl, [.ins C ns l, .ins C ns l], rfl, ?_⟩
  · rintro d μ' rfl v H' F' β' st s' r'
    have r2 : Rep X.K F' H' (.bl true) v := r'
    unfold Rep at r2
    subst r2
    refine q H' fun a o ea => ?_
    by_cases hfa : F a
    · rw [st.h a hfa]; exact ea
    · exact st.k a o ea (fun z => nomatch z) hfa
  · rw [e]; exact fun g => rfl
/-- == of data, of a def with itself, of an instance with itself -/
def rEqX (K : PySem.W.Frag) (C : Addr) (f : List T → Pr T) : R2 := fun x y H Q => rEqD K x y H Q ∨ (∃ a, x = .ref a ∧ y = .ref a ∧ isFnT K a = true ∧ Q (.bl true) H) ∨ rEqG (DIns C (RSame K C f)) x y H Q
theorem op_eqX {C : Addr} {k j : Nat} {f : List T → Pr T} (h : EqF X.prog X.w X.K X.mg X.base C k f) (hr : Room j X.A) (hk : k ≤ j) (tk : Takes X W0) : OpR X (compareOp .Eq) (rEqX X.K C f) := by
  intro pins s σ H x y v u Q I rx ry hh
  rcases hh with hh | ⟨a, rfl, rfl, ha, q⟩ | hh
  · exact op_eqD (hu64 hr) pins s σ H x y v u Q I rx ry hh
  · cases (show v = Value.ref a from rx)
    cases (show u = Value.ref a from ry)
    obtain ⟨dd, dt, sl, e⟩ := isFnT_ok ha
    have e2 := I.kIn _ _ e
    obtain ⟨hp, g, d, tk, os⟩ := s
    exact fn_eq e2 hr.units0 ⟨.bl true, H, I, rfl, q⟩
  · exact op_eqG (eqF_rc h tk) (hr.mono hk) pins s σ H x y v u Q I rx ry hh
end
open Classical in
noncomputable def oEqX (K : PySem.W.Frag) (C : Addr) (f : List T → Pr T) : O2 := fun t u => match t, u with
  | .ob a, .ob b => if a = b ∧ isFnT K a = true then some (.bl true) else none
  | .ins C1 ns l, .ins C2 ms m => if C1 = C ∧ T.ins C2 ms m = T.ins C1 ns l ∧ f [.ins C ns l, .ins C ns l] = .ok (.bl true) then some (.bl true) else none
  | t, u => oEq t u
theorem k_eqX {K : PySem.W.Frag} {C : Addr} {f : List T → Pr T} : Z2 K (rEqX K C f) (fo2 (oEqX K C f)) := by
  intro F H t u v w Q Qd hf r1 r2 ⟨r, h1, h2⟩ q
  have key : oEq t u = some r → rEqX K C f v w H Q := fun h => .inl (k_eq F H t u v w Q Qd hf r1 r2 ⟨r, h, h2⟩ q)
  cases t with
  | ob a =>
    cases u with
    | ob b =>
      simp only [oEqX] at h1
      obtain ⟨⟨rfl, z⟩, rfl⟩ := ite_some h1
      have r1' : Rep K F H (.ob a) v := r1
      have r2' : Rep K F H (.ob a) w := r2
      unfold Rep at r1' r2'
      exact .inr (.inl ⟨a, r1', r2', z, pok_here hf q h2 rep_bl⟩)
    | _ => exact key h1
  | ins C1 ns l =>
    cases u with
    | ins C2 ms m =>
      simp only [oEqX] at h1
      obtain ⟨⟨rfl, z1, z2⟩, rfl⟩ := ite_some h1
      cases z1
      obtain ⟨a, dx, xs, rfl, ea, zl, rl⟩ := r1
      obtain ⟨b, dy, ys, rfl, eb, zm, rm⟩ := r2
      have mo : Mon F [] H (fun c => F c ∨ c = a ∨ c = b) [] H := ⟨fun _ => .inl, fun _ _ => rfl, fun _ _ h => h, List.prefix_refl _⟩
      refine .inr (.inr ⟨⟨a, b, dx, dy, _, _, rfl, rfl, ea, eb, fun c => F c ∨ c = a ∨ c = b, ns, l, fun c hc => ?_, ?_, ?_, z2⟩, fun H' ex => q _ h2 _ H' F ⟨ex, fun _ h => h, fun _ h => .inl h, fun c hc => ?_, hf⟩ rep_bl⟩)
      · rcases hc with hc | rfl | rfl
        · exact hf c hc
        · rw [ea]; exact fun y => nomatch y
        · rw [eb]; exact fun y => nomatch y
      · unfold Rep; exact ⟨a, dx, xs, rfl, .inr (.inl rfl), ea, zl, RepL.mon mo _ _ rl⟩
      · unfold Rep; exact ⟨b, dy, ys, rfl, .inr (.inr rfl), eb, zm, RepL.mon mo _ _ rm⟩
      · cases e : H c with
        | none => exact absurd e (hf c hc)
        | some o => rw [ex c o e]; exact fun y => nomatch y
    | _ => exact key h1
  | _ => cases u <;> exact key h1
end Zy
set_option Elab.async false
set_option linter.all false
set_option maxRecDepth 100000
set_option maxHeartbeats 400000
/-! ZU: dicts as trees, instances made, fields stored. -/
namespace Zy
open PySem PySem.Spec PyProof.Rows L2 LiI
section
variable {X : Cx} {W : WX} {e o k v : Expr} {es : List Expr} {pos pos' p p2 apos cpos : Pos} {g ga gb go : Sx} {gs : Sa}
/-! ### dicts -/
theorem rep_dk {K : PySem.W.Frag} {F : Fz} {H : Hp} {a : Addr} {ks : List Key} {l : List T} {xs : List V} (f : F a) (e : H a = some (.dK (ks.zip xs))) (z : ks.length = l.length) (r : RepL K F H l xs) : Rep K F H (.dk ks l) (.ref a) := by
  unfold Rep; exact ⟨a, xs, rfl, f, e, z, r⟩
theorem ze_dnew : ZE X W (.Dict [] [] pos) (wC (.dk [] [])) :=
  ⟨PE.imp pe_dnewK fun σ H Q ⟨F, β, ρ, μ, Qd, Ed, s, l, q, o, w⟩ a ha => by
    have g := Gro.new (o := .dK []) s.ftr ha
    exact q _ μ w _ _ _ β g.stp (s.gro g) (rep_dk (ks := []) (l := []) (xs := []) (.inr rfl) upd_same rfl .nil)⟩
theorem me_dnew : ME X W (.Dict [] [] pos) (mC (.dk [] [])) := me_c ze_dnew
/-- {k: v}, k written -/
theorem ze_d1 {key : Key} {we : WEx} (hk : PE X k (tC (kV key))) (he : ZE X W0 v we) : ZE X W (.Dict [some k] [v] pos) (fun ρ μ Q E => we ρ μ (fun d μ1 => ∃ t, d = .t t ∧ Q (.t (.dk [key] [t])) μ1) wEk) :=
  ⟨PE.imp (pe_disp (pps_cons hk he.pe pps_nil) rfl rfl (by simp) (by show 1 ≤ 15; decide)) fun σ H Q ⟨F, β, ρ, μ, Qd, Ed, s, l, q, o, w⟩ a ha => by
    have g := Gro.newT (o := .dK []) s.ftr ha
    refine ⟨F, β, ρ, μ, _, wEk, s.gro g, l.stp g.stp, fun d μ1 ⟨t, hd, hq⟩ x H2 F2 β2 st s2 r2 => ?_, fun _ _ z => z.elim, w⟩
    subst hd
    have nf : ¬ F a := fun z => s.ftr a z ha
    have nb : a ∉ β := fun z => s.btr a z ha
    have e2 : H2 a = some (.dK []) := st.k a _ upd_same nb nf
    have nf2 : ¬ F2 a := fun z => by
      rcases st.g a z with y | y | y
      · exact nf y
      · exact nb y
      · rw [upd_same] at y; cases y
    have nb2 : a ∉ β2 := fun z => by
      rcases st.n a z with y | y
      · exact nb y
      · rw [upd_same] at y; cases y
    refine ⟨e2, [(key, x)], rfl, by show 1 ≤ 15; decide, ?_⟩
    have em : mergeK [] [(key, x)] = [(key, x)] := rfl
    rw [em]
    -- the dict, frozen
    have ne : ∀ b u, H2 b = some u → b ≠ a ∨ u = .dK [] := fun b u h => by
      by_cases hb : b = a
      · subst hb; rw [e2] at h; cases h; exact .inr rfl
      · exact .inl hb
    have mo : Mon F2 β2 H2 (fun b => F2 b ∨ b = a) β2 (upd H2 a (.dK [(key, x)])) := ⟨fun _ => .inl, fun b f => upd_ne fun e => nf2 (by rw [← e]; exact f), fun b xs h => by
      rcases ne b _ h with z | z
      · rw [upd_ne z]; exact h
      · exact (nomatch z), List.prefix_refl _⟩
    have st0 : Stp F β H F2 β2 H2 := g.stp.trans st
    have st3 : Stp F β H (fun b => F2 b ∨ b = a) β2 (upd H2 a (.dK [(key, x)])) := by
      have hne : ∀ b, H b ≠ none → b ≠ a := fun b h e => h (by rw [e]; exact ha)
      refine ⟨fun b f => .inl (st0.f b f), fun b f => by rw [upd_ne (hne b (s.ftr b f))]; exact st0.h b f, fun b xs h => by rw [upd_ne (hne b (by rw [h]; exact fun y => nomatch y))]; exact st0.t b xs h, st0.b,
        fun b u h n1 n2 => by rw [upd_ne (hne b (by rw [h]; exact fun y => nomatch y))]; exact st0.k b u h n1 n2, st0.n, fun b z => z.elim (st0.g b) fun e => .inr (.inr (by rw [e]; exact ha)), fun b h => by rw [upd_ne (hne b h)]; exact st0.s b h⟩
    have s3 : Sto X.K (fun b => F2 b ∨ b = a) β2 (upd H2 a (.dK [(key, x)])) μ1 := by
      refine ⟨s2.len, s2.nd, fun i b m e1 e3 => ?_, fun b z => ?_, fun b z => ?_⟩
      · have hb : b ≠ a := fun e => nb2 (by rw [← e]; exact List.mem_of_getElem? e1)
        have ok := s2.ok i b m e1 e3
        match m, ok with
        | .lst ds, ok => obtain ⟨n, ys, q, r⟩ := ok; exact ⟨fun z => z.elim n hb, ys, by rw [upd_ne hb]; exact q, r.mon mo⟩
        | .tup ds, ok => obtain ⟨ys, q, r⟩ := ok; exact ⟨ys, by rw [upd_ne hb]; exact q, r.mon mo⟩
        | .dk ks ds, ok => obtain ⟨n, ys, q, z, r⟩ := ok; exact ⟨fun z => z.elim n hb, ys, by rw [upd_ne hb]; exact q, z, r.mon mo⟩
        | .dt ks ds, ok => obtain ⟨n, ys, q, z, r⟩ := ok; exact ⟨fun z => z.elim n hb, ys, by rw [upd_ne hb]; exact q, z, r.mon mo⟩
        | .ins C ns ds, ok => obtain ⟨n, dx, ys, q, z, r⟩ := ok; exact ⟨fun z => z.elim n hb, dx, ys, by rw [upd_ne hb]; exact q, z, r.mon mo⟩
        | .dead, ok => trivial
      · by_cases hb : b = a
        · rw [hb, upd_same]; exact fun y => nomatch y
        · rw [upd_ne hb]; exact z.elim (s2.ftr b) fun e => absurd e hb
      · have hb : b ≠ a := fun e => nb2 (by rw [← e]; exact z)
        rw [upd_ne hb]; exact s2.btr b z
    exact q _ μ1 hq _ _ _ β2 st3 s3 (rep_dk (ks := [key]) (l := [t]) (xs := [x]) (.inr rfl) upd_same rfl (.cons (Rep.mon mo _ _ r2) .nil))⟩
def mD1 (key : Key) (g : Sx) : Sx := fun ρ μ => (g ρ μ).only.bind fun d μ1 => match d with
  | .t t => .ok (.t (.dk [key] [t])) μ1
  | _ => .bad
theorem me_d1i {i : Int} {j kp} (he : ME X W0 v g) : ME X W (.Dict [some (.Constant (.int i) j kp)] [v] pos) (mD1 (.inl i) g) :=
  ⟨(ze_d1 (key := .inl i) (pe_int) he.z).imp fun ρ μ Q E q => Sr.run_mono (Sr.run_only (Sr.run_bind q)) (fun d μ1 h => by
    cases d with
    | t t => exact ⟨t, rfl, h⟩
    | r i => exact h.elim) fun _ _ h => h⟩
/-! ### list(d.items()) -/
def itemsO : List Key → List T → List T
  | k :: ks, t :: l => .tup [match k with | .inl i => .int i | .inr z => .str z, t] :: itemsO ks l
  | _, _ => []
def oItems : O1
  | .dk ks l => some (.lst (itemsO ks l))
  | _ => none
theorem items_rep {K : PySem.W.Frag} {F : Fz} {H H' : Hp} (sm : ∀ b o, H b = some o → H' b = some o) (hf : ∀ a, F a → H a ≠ none) {G : Fz} (fg : ∀ a, F a → G a) : ∀ {ks : List Key} {l : List T} {xs : List V} {ts : List Addr}, ks.length = l.length → RepL K F H l xs → Paired (fun (t : Addr) (q : Key × V) => H' t = some (.tup [kV q.1, q.2])) ts (ks.zip xs) → RepL K G H' (itemsO ks l) (ts.map V.ref)
  | [], [], xs, ts, _, r, h => by cases h; exact .nil
  | k :: ks, t :: l, xs, ts, z, r, h => by
    unfold RepL at r
    obtain ⟨x, xr, rfl, r1, r2⟩ := r
    rw [List.zip_cons_cons] at h
    cases h with
    | cons h1 h2 =>
      have mo : Mon F [] H G [] H' := ⟨fg, fun a f => by
        cases e : H a with
        | none => exact absurd e (hf a f)
        | some o => exact sm a o e, fun a xs h => sm a _ h, List.prefix_refl _⟩
      refine .cons ?_ (items_rep sm hf fg (by simpa using z) r2 h2)
      unfold Rep
      refine ⟨by show 2 ≤ sizeLine; decide, _, _, rfl, .inl h1, .cons ?_ (.cons (Rep.mon mo _ _ r1) .nil)⟩
      cases k with
      | inl i => exact rep_int
      | inr z => exact rep_str
  | [], t :: l, xs, ts, z, r, h => by cases z
  | k :: ks, [], xs, ts, z, r, h => by cases z
theorem items_len : ∀ {ks : List Key} {l : List T}, (itemsO ks l).length ≤ l.length
  | [], l => by simp [itemsO]
  | k :: ks, [] => by simp [itemsO]
  | k :: ks, t :: l => by simp [itemsO]; exact items_len
theorem ze_items {we : WEx} (hc : X.calm = true) (hm : X.mg "list" = none) (he : ZE X W e we) (hg : Gl X "list" := by rfl) (hb : attributeBase e "items" X.env (eval e X.env) = eval e X.env := by rfl) (hl : (apos.endLine == cpos.line) = true := by rfl) : ZE X W (.Call (.Name "list" p) [.Call (.Attribute e "items" apos) [] [] cpos] [] pos) (wOp1 (fun t Q => ∃ ks l, t = .dk ks l ∧ l.length ≤ sizeLine ∧ Q (.lst (itemsO ks l))) we) :=
  ⟨PE.imp (LiI.pe_listItems hc he.pe hg hm (by decide +kernel) hb hl) fun σ H Q ⟨F, β, ρ, μ, Qd, Ed, s, l, q, o, w⟩ => ⟨F, β, ρ, μ, _, Ed, s, l, fun d μ1 ⟨t, h1, ks, tl, h2, hz, h3⟩ v H1 F1 β1 st s1 r1 => by
    subst h2
    obtain ⟨a, xs, rfl, e, z, rl⟩ := vw_now s1 r1 h1
    refine ⟨a, _, rfl, e, fun H' pp ts sm hp ht hpt e1 pr => ?_⟩
    have g : Gro F1 H1 (fun b => F1 b ∨ b = pp) H' := ⟨sm, fun _ => .inl, fun b z => z.elim .inl fun e => .inr (by rw [e]; exact hp), fun b z => by
      rcases z with z | rfl
      · cases e : H1 b with
        | none => exact absurd e (s1.ftr b z)
        | some o => rw [sm b o e]; exact fun y => nomatch y
      · rw [e1]; exact (fun y => nomatch y), s1.ftr⟩
    refine q _ μ1 h3 _ H' _ β1 (st.trans g.stp) (s1.gro g) ?_
    show Rep X.K _ H' (.lst (itemsO ks tl)) (.ref pp)
    unfold Rep
    exact ⟨Nat.le_trans items_len hz, pp, _, rfl, .inr rfl, e1, items_rep sm s1.ftr (fun _ => .inl) z rl pr⟩, o, w⟩⟩
def oItemsZ : O1
  | .dk ks l => if l.length ≤ sizeLine then some (.lst (itemsO ks l)) else none
  | _ => none
theorem oItemsZ_ok {t r : T} (h : oItemsZ t = some r) : ∃ ks l, t = .dk ks l ∧ l.length ≤ sizeLine ∧ r = .lst (itemsO ks l) := by
  cases t with
  | dk ks l => simp only [oItemsZ] at h; obtain ⟨z, rfl⟩ := ite_some h; exact ⟨ks, l, rfl, z, rfl⟩
  | _ => cases h
theorem ge_items {g : Gx} (hc : X.calm = true) (hm : X.mg "list" = none) (he : GV X W e g) (hg : Gl X "list" := by rfl) (hb : attributeBase e "items" X.env (eval e X.env) = eval e X.env := by rfl) (hl : (apos.endLine == cpos.line) = true := by rfl) : GE X W (.Call (.Name "list" p) [.Call (.Attribute e "items" apos) [] [] cpos] [] pos) (g1 oItemsZ g) :=
  ⟨(ze_items hc hm he.z hg hb hl).imp fun ρ μ Q E q => Pr.run_mono (Pr.run_bind q) (fun t h d hd => by
    obtain ⟨r, h1, h2⟩ := Pr.run_of h
    obtain ⟨ks, l, h3, h4, rfl⟩ := oItemsZ_ok h1
    exact ⟨t, hd, ks, l, h3, h4, h2⟩) fun _ h => h⟩
/-! ### sorted(set(l)), l empty -/
theorem ze_sset {we : WEx} {q1 q2 q3 : Pos} (hc : X.calm = true) (hu : X.A.units + 64 < cLine) (hs : X.mg "sorted" = none) (hm : X.mg "set" = none) (he : ZE X W e we) (hg : Gl X "sorted" := by rfl) (hg2 : Gl X "set" := by rfl)
    (h1 : starEach (e :: []) X.env = (false, eval e X.env) :: starEach [] X.env := by rfl) (h2 : (backTo q2 (starEach [] X.env)).any (·.1) = false := by rfl)
    (h3 : starEach ((.Call (.Name "set" q1) [e] [] q2 : Expr) :: []) X.env = (false, eval (.Call (.Name "set" q1) [e] [] q2) X.env) :: starEach [] X.env := by rfl) (h4 : (backTo pos (starEach [] X.env)).any (·.1) = false := by rfl) :
    ZE X W (.Call (.Name "sorted" q3) [.Call (.Name "set" q1) [e] [] q2] [] pos) (wOp1 (fun t Q => t = .lst [] ∧ Q (.lst [])) we) :=
  ⟨PE.imp (pe_callB (cr_sortedT hc) hg hs (by decide +kernel) (pa_cons (pe_callTy (cr_setOfT hc hu) hg2 hm (by decide +kernel) (za_cons he za_nil h1).pa (by decide) (by decide) h1 h2) pa_nil h3) (by decide) (by decide) h3 h4) fun σ H Q ⟨F, β, ρ, μ, Qd, Ed, s, l, q, o, w⟩ => by
    refine ⟨F, β, ρ, μ, fun ds μ1 => match ds with | [d] => ∃ t, vw μ1 d = some t ∧ t = .lst [] ∧ Qd (.t (.lst [])) μ1 | _ => False, Ed, s, l, fun ds μ1 hd vs H1 F1 β1 st s1 r1 => ?_, o, w⟩
    · obtain ⟨d, rfl, hv, hq⟩ : ∃ d, ds = [d] ∧ vw μ1 d = some (.lst []) ∧ Qd (.t (.lst [])) μ1 := by
        match ds, hd with
        | [d], ⟨t, h1, h2, h3⟩ => exact ⟨d, rfl, by rw [h1, h2], h3⟩
      clear hd
      obtain ⟨x, xr, rfl, rx, r2⟩ := r1
      cases (show xr = [] from r2)
      obtain ⟨a, xs, rfl, ea, rl⟩ := vw_now s1 rx hv
      unfold RepL at rl
      subst rl
      refine ⟨a, [], rfl, .of ea, (fun p (hp : p ∈ []) => nomatch hp), by show 0 < 64; decide, fun b L hb hL _ => ?_⟩
      have eL : L = [] := List.eq_nil_iff_forall_not_mem.mpr fun p hp => nomatch (hL p hp)
      subst eL
      refine ⟨b, [], 1, 0, rfl, upd_same, (fun p (hp : p ∈ []) => nomatch hp), Nat.le_refl _, (fun p (hp : p ∈ []) => nomatch hp), fun L' c pm _ _ _ hc' => ?_⟩
      have e' := pm.eq_nil
      subst e'
      have g1 := Gro.newT (o := SetTO X.prog X.w b []) s1.ftr hb
      have s2 := s1.gro g1
      have g2 := Gro.new (o := .lst []) s2.ftr hc'
      exact q _ μ1 hq _ _ _ β1 (st.trans (g1.stp.trans g2.stp)) (s2.gro g2) (rep_lst (ts := []) (xs := []) (by decide) (.inr rfl) upd_same g2 .nil)⟩
def oSset : O1
  | .lst [] => some (.lst [])
  | _ => none
theorem oSset_ok {t r : T} (h : oSset t = some r) : t = .lst [] ∧ r = .lst [] := by
  match t, h with
  | .lst [], h => cases h; exact ⟨rfl, rfl⟩
theorem me_sset {q1 q2 q3 : Pos} (hc : X.calm = true) (hu : X.A.units + 64 < cLine) (hs : X.mg "sorted" = none) (hm : X.mg "set" = none) (he : ME X W e g) (hg : Gl X "sorted" := by rfl) (hg2 : Gl X "set" := by rfl)
    (h1 : starEach (e :: []) X.env = (false, eval e X.env) :: starEach [] X.env := by rfl) (h2 : (backTo q2 (starEach [] X.env)).any (·.1) = false := by rfl)
    (h3 : starEach ((.Call (.Name "set" q1) [e] [] q2 : Expr) :: []) X.env = (false, eval (.Call (.Name "set" q1) [e] [] q2) X.env) :: starEach [] X.env := by rfl) (h4 : (backTo pos (starEach [] X.env)).any (·.1) = false := by rfl) :
    ME X W (.Call (.Name "sorted" q3) [.Call (.Name "set" q1) [e] [] q2] [] pos) (m1 oSset g) :=
  ⟨(ze_sset hc hu hs hm he.z hg hg2 h1 h2 h3 h4).imp fun ρ μ Q E q => Sr.run_mono (Sr.run_bind q) (fun d μ1 h => by
    obtain ⟨r, h1, h2⟩ := Sr.run_of h
    obtain ⟨t, h3, h4⟩ := bind_some h1
    obtain ⟨x, h5, rfl⟩ := map_some h4
    obtain ⟨h6, rfl⟩ := oSset_ok h5
    exact ⟨t, h3, h6, h2⟩) fun _ _ h => h⟩
/-! ### o.f = e -/
def putN (f : Str) : List Str → List Str
  | [] => [f]
  | n :: r => if n = f then n :: r else n :: putN f r
def putV {α : Type} (f : Str) (d : α) : List Str → List α → List α
  | n :: r, x :: l => if n = f then d :: l else x :: putV f d r l
  | _, _ => [d]
theorem putF_zip (f : Str) (y : V) : ∀ {ns : List Str} {xs : List V}, ns.length = xs.length → putF f y (ns.zip xs) = (putN f ns).zip (putV f y ns xs)
  | [], [], _ => rfl
  | n :: ns, x :: xs, h => by
    rw [List.zip_cons_cons]
    show (if n = f then (n, y) :: ns.zip xs else (n, x) :: putF f y (ns.zip xs)) = ((if n = f then n :: ns else n :: putN f ns) : List Str).zip (if n = f then y :: xs else x :: putV f y ns xs)
    by_cases z : n = f
    · rw [if_pos z, if_pos z, if_pos z]; rfl
    · rw [if_neg z, if_neg z, if_neg z, List.zip_cons_cons, putF_zip f y (by simpa using h)]
  | [], x :: xs, h => by cases h
  | n :: ns, [], h => by cases h
theorem putV_len {α β : Type} (f : Str) (d : α) (e : β) : ∀ {ns : List Str} {l : List α}, ns.length = l.length → (putN f ns).length = (putV f d ns l).length
  | [], [], _ => rfl
  | n :: ns, x :: l, h => by
    show (if n = f then n :: ns else n :: putN f ns).length = (if n = f then d :: l else x :: putV f d ns l).length
    by_cases z : n = f
    · rw [if_pos z, if_pos z]; simpa using h
    · rw [if_neg z, if_neg z]; simp [putV_len f d e (show ns.length = l.length by simpa using h)]
  | [], x :: l, h => by cases h
  | n :: ns, [], h => by cases h
theorem putV_rep {K : PySem.W.Frag} {F : Fz} {β : List Addr} {H : Hp} {f : Str} {d : D} {y : V} (r : RepD K F β H d y) : ∀ {ns : List Str} {ds : List D} {xs : List V}, ns.length = ds.length → RepDs K F β H ds xs → RepDs K F β H (putV f d ns ds) (putV f y ns xs)
  | [], [], xs, _, h => by cases (show xs = [] from h); exact ⟨y, [], rfl, r, rfl⟩
  | n :: ns, x :: ds, xs, z, ⟨u, ur, e, r1, r2⟩ => by
    subst e
    show RepDs K F β H (if n = f then d :: ds else x :: putV f d ns ds) (if n = f then y :: ur else u :: putV f y ns ur)
    by_cases q : n = f
    · rw [if_pos q, if_pos q]; exact ⟨y, ur, rfl, r, r2⟩
    · rw [if_neg q, if_neg q]; exact ⟨u, _, rfl, r1, putV_rep r (by simpa using z) r2⟩
  | [], x :: ds, xs, z, h => by cases z
  | n :: ns, [], xs, z, h => by cases z
def wFldS (K : PySem.W.Frag) (f : Str) (wo we : WEx) : WSt := fun G ρ μ => we ρ μ (fun d μ1 => wo ρ μ1 (fun oo μ2 => ∃ i C ns ds, oo = .r i ∧ μ2[i]? = some (.ins C ns ds) ∧ Cls K C ∧ NoAttr K C f ∧ ns.length < 1000 ∧ G.nx ρ (μ2.set i (.ins C (putN f ns) (putV f d ns ds)))) fun e μ' => G.er e ρ μ') fun e μ' => G.er e ρ μ'
theorem zs_fld {f : Str} {wo we : WEx} (ho : ZE X W o wo) (he : ZE X W e we) (hs : swapsWith e (some (.Attribute o f pos')) pos.line X.env = pure false := by rfl) : ZS X W (.Assign [.Attribute o f pos'] e pos) (wFldS X.K f wo we) :=
  ⟨PS.imp (ps_fld ho.pe he.pe hs) fun D σ H ⟨F, β, ρ, μ, G, s, l, g, w⟩ => ⟨F, β, ρ, μ, _, _, s, l, fun d μ1 w1 y H1 F1 β1 st1 s1 r1 =>
    ⟨F1, β1, ρ, μ1, _, _, s1, l.stp st1, fun oo μ2 ⟨i, C, ns, ds, h1, h2, h3, h4, h5, h6⟩ v H2 F2 β2 st2 s2 r2 => by
      subst h1
      obtain ⟨a, ha, rfl⟩ := r2
      obtain ⟨nf, dx, xs, e, z, rl⟩ := s2.ok i a _ ha h2
      have nt : ∀ zs, H2 a ≠ some (.tup zs) := fun zs h => by rw [e] at h; cases h
      have zl : ns.length = xs.length := by rw [rl.length]; exact z
      have stw := s2.write_stp (o := .ins C dx ((putN f ns).zip (putV f y ns xs))) ha nf nt
      have sw := s2.write ha nf nt (m := .ins C (putN f ns) (putV f d ns ds)) ⟨nf, dx, putV f y ns xs, upd_same, by rw [← putV_len f d d z], (putV_rep (r1.stp st2) z rl).stp stw⟩
      refine ⟨a, C, dx, _, rfl, e, h3, h4, by simp [zl]; omega, ?_⟩
      rw [putF_zip f y zl]
      exact g.nx ρ _ h6 σ _ F2 β2 (st1.trans (st2.trans stw)) sw (l.stp (st1.trans (st2.trans stw))), (g.stp st1).eok (l.stp st1), w1⟩, g.eok l, w⟩⟩
open Classical in
noncomputable def msFld (K : PySem.W.Frag) (f : Str) (go ge : Sx) : Ms := fun ρ μ => liftM (ge ρ μ) ρ fun d μ1 => liftM (go ρ μ1) ρ fun oo μ2 => match oo with
  | .r i => match μ2[i]? with
    | some (.ins C ns ds) => if Cls K C ∧ NoAttr K C f ∧ ns.length < 1000 then some (.nx ρ (μ2.set i (.ins C (putN f ns) (putV f d ns ds)))) else none
    | _ => none
  | _ => none
theorem ms_fld {f : Str} (ho : ME X W o go) (he : ME X W e g) (hs : swapsWith e (some (.Attribute o f pos')) pos.line X.env = pure false := by rfl) : MS X W (.Assign [.Attribute o f pos'] e pos) (msFld X.K f go g) :=
  ⟨(zs_fld ho.z he.z hs).imp fun G ρ μ h => Sr.run_mono (liftM_run h) (fun d μ1 h => Sr.run_mono (liftM_run h) (fun oo μ2 h => by
    cases oo with
    | t t => exact h.elim
    | r i =>
      cases em : μ2[i]? with
      | none => simp only [em] at h; exact h.elim
      | some m =>
        cases m with
        | ins C ns ds =>
          simp only [em] at h
          split at h
          · rename_i z; exact ⟨i, C, ns, ds, rfl, em, z.1, z.2.1, z.2.2, h⟩
          · exact h.elim
        | _ => simp only [em] at h; exact h.elim) fun _ _ h => h) fun _ _ h => h⟩
/-! ### an instance is made -/
def mNew (C : Addr) (f : Fm) (n : Nat) (gs : Sa) : Sx := fun ρ μ => (gs ρ μ).bind fun ds μ1 => (mCall f [] n (fun _ μ2 => .ok (.r μ1.length :: ds) μ2) ρ (μ1 ++ [.ins C [] []])).bind fun d μ3 => match d with
  | .t .non => .ok (.r μ1.length) μ3
  | _ => .bad
structure MkF (P : Program) (w : World) (K : PySem.W.Frag) (mg : Str → Option Value) (base : Heap) (x : Str) (C : Addr) (n k : Nat) (f : Fm) : Prop where
  ex : ∃ fa fd ps, mg x = some (.ref C) ∧ Mk K C fa ∧ ps.length = n ∧ Binds K fd ps [] ∧ FnOk P w K mg base (L2.CX P w) k fa fd ps (spZ K ps.length (mdE f))
theorem me_new {x : Str} {C : Addr} {n k j : Nat} {f : Fm} (h : MkF X.prog X.w X.K X.mg X.base x C n k f) (hr : Room j X.A) (hk : k + 1 ≤ j) (tk : Takes X W0) (ha : MA X W (e :: es) gs) (hg : Gl X x := by rfl) (hdb : (x == ("__debug__" : Str)) = false := by decide)
    (he : starEach (e :: es) X.env = (false, eval e X.env) :: starEach es X.env := by rfl) (hpl : (backTo pos (starEach es X.env)).any (·.1) = false := by rfl) : ME X W (.Call (.Name x p) (e :: es) [] pos) (fun ρ μ => match gs ρ μ with
      | .ok ds μ1 => (mNew C f n (fun _ _ => .ok ds μ1) ρ μ1).only
      | .er e μ1 => .er e μ1
      | .bad => .bad) := by
  obtain ⟨fa, fd, ps, h1, h2, h3, h4, h5⟩ := h.ex
  subst h3
  refine ⟨⟨PE.imp (pe_make h2 h5 (hr.mono hk) hg h1 h4 .nil (E := fun _ _ _ => False) (passes_call tk fun _ _ _ _ h => h) ha.z.pa hdb he hpl) fun σ H Q ⟨F, β, ρ, μ, Qd, Ed, s, l, q, o, w'⟩ => ⟨F, β, ρ, μ, fun ds μ1 => ((mNew C f ps.length (fun _ _ => .ok ds μ1) ρ μ1).only).run Qd Ed, Ed, s, l, fun ds μ1 hd vs H1 F1 β1 st1 s1 r1 a dx na nd ne => ?_, o, ?_⟩⟩⟩
  · have g1 := Gro.newT (o := .own a) s1.ftr nd
    have s2 := s1.gro g1
    have na2 : (upd H1 dx (.own a)) a = none := by rw [upd_ne (Ne.symm ne)]; exact na
    have st3 := s2.alloc_stp (o := .ins C dx []) na2
    have s3 := s2.alloc (o := .ins C dx []) (m := .ins C [] []) na2 ⟨fun f => s2.ftr a f na2, dx, [], upd_same, rfl, rfl⟩
    have h0 : (mCall f [] ps.length (fun _ μ2 => .ok (.r μ1.length :: ds) μ2) ρ (μ1 ++ [.ins C [] []])).run (fun d μ3 => d = .t .non ∧ Qd (.r μ1.length) μ3) (fun _ _ => False) := by
      refine Sr.run_mono (Sr.run_bind (Sr.run_only (E' := fun _ _ => False) hd)) (fun d μ3 h => ?_) fun _ _ h => h
      match d, h with
      | .t .non, h => exact ⟨rfl, h⟩
    obtain ⟨zl, μs, q1, q2⟩ := call_imp (dts := []) h0
    have rr : RepDs X.K F1 (β1 ++ [a]) (upd (upd H1 dx (.own a)) a (.ins C dx [])) (.r μ1.length :: ds) (.ref a :: vs) := ⟨.ref a, vs, rfl, new_ref s2, r1.stp (g1.stp.trans st3)⟩
    refine callX_red (W := W0) (n := ps.length) (σ := σ) (dvs' := []) (fun _ _ => .nil) s3 rr (fun d μ' hd v H' F' β' st s' r' => ?_) (Ed := fun _ _ => False) (fun _ _ z => z.elim) (fun _ _ _ h => h) ⟨zl, .inl ⟨μs, q1, q2⟩⟩
    obtain ⟨rfl, hq⟩ := hd
    have rn : Rep X.K F' H' .non v := r'
    unfold Rep at rn
    refine ⟨rn, q _ μ' hq (.ref a) H' F' β' (st1.trans (g1.stp.trans (st3.trans st))) s' ⟨a, ?_, rfl⟩⟩
    obtain ⟨l2, rfl⟩ := st.b
    rw [List.getElem?_append_left (by rw [List.length_append, s2.len]; simp), ← s2.len]; simp
  · have hw : (match gs ρ μ with
      | .ok ds μ1 => (mNew C f ps.length (fun _ _ => .ok ds μ1) ρ μ1).only
      | .er e μ1 => .er e μ1
      | .bad => .bad).run Qd Ed := w'
    show (gs ρ μ).run _ Ed
    cases e : gs ρ μ with
    | bad => rw [e] at hw; exact hw
    | er e μ1 => rw [e] at hw; exact hw
    | ok ds μ1 => rw [e] at hw; exact hw
/-! ### what the proof never comes to -/
def msBad : Ms := fun _ _ => none
theorem ms_never {st : Stmt} : MS X W st msBad := ⟨zs_never.imp fun G ρ μ h => h⟩
theorem mss_never {sts : List Stmt} : MSs X W sts msBad := ⟨zss_never.imp fun G ρ μ h => h⟩
end
end Zy
namespace Zy
open PySem PySem.Spec PyProof.Rows L2
theorem gs_never {X : Cx} {W : WX} {st : Stmt} : GS X W st sNever := ⟨zs_never.imp fun G ρ μ h => h⟩
def mMake (C : Addr) (f : Fm) (n : Nat) (gs : Sa) : Sx := fun ρ μ => match gs ρ μ with
  | .ok ds μ1 => (mNew C f n (fun _ _ => .ok ds μ1) ρ μ1).only
  | .er e μ1 => .er e μ1
  | .bad => .bad
theorem me_make {X : Cx} {W : WX} {e : Expr} {es : List Expr} {pos p : Pos} {gs : Sa} {x : Str} {C : Addr} {n k j : Nat} {f : Fm} (h : MkF X.prog X.w X.K X.mg X.base x C n k f) (hr : Room j X.A) (hk : k + 1 ≤ j) (ha : MA X W (e :: es) gs) (hg : Gl X x := by rfl) (hdb : (x == ("__debug__" : Str)) = false := by decide)
    (he : starEach (e :: es) X.env = (false, eval e X.env) :: starEach es X.env := by rfl) (hpl : (backTo pos (starEach es X.env)).any (·.1) = false := by rfl) : ME X W (.Call (.Name x p) (e :: es) [] pos) (mMake C f n gs) := me_new h hr hk takes_none5 ha hg hdb he hpl
end Zy
set_option Elab.async false
set_option linter.all false
set_option maxRecDepth 100000
set_option maxHeartbeats 1000000
/-! ZV: tuple * int, once too. -/
namespace Zy
open PySem PySem.Spec PyProof.Rows L2
theorem mul_once (l : Addr) (items : Array Value) (n : Nat) (dd : Option Addr) (sl : Array (Option Value)) (u : Tok) :
    Meets (Builtin.«tuple.__mul__» ⟨[.ref l, .int 1 u], []⟩) (fun _ R s => s.heap.get? l = some { cls := .type "tuple", dict := dd, data := .seq items n, slots := sl } ∧ R (.ok (.ret (Value.ref l))) s) :=
  .of_wp fun prog w A R s h => by
    obtain ⟨hp, g, d, tk, os⟩ := s
    obtain ⟨hl, h⟩ := h
    have f1 := AutoSeq1.idx_int
    have c1 : (items.isEmpty || (1 : Int) == 1) = true := by simp
    wp_walk using wpAny_loadPart' hl
    repeat (first
      | (refine wpAny_ite_false (by decide) ?_; wp_walk using wpAny_loadPart' hl)
      | (refine wpAny_ite_true (by simp) ?_; wp_walk using wpAny_loadPart' hl))
    exact ⟨_, rfl, h⟩
def rRep1 (K : PySem.W.Frag) : R2 := fun x y H Q => ∃ l xs, x = .ref l ∧ y = .int 1 ∧ SqT K H l xs ∧ Q (.ref l) H
section
variable {X : Cx}
theorem op_rep1 : OpR X (binaryOp .Mult) (rRep1 X.K) := by
  intro pins s σ H x y v u Q I rx ry ⟨l, xs, ex, ey, hT, q⟩
  subst ex ey
  cases rx
  obtain ⟨t, rfl⟩ := ry
  obtain ⟨its, r, ⟨⟨cls, dd, data, sl⟩, ho, hc, n, hd⟩, hs⟩ := I.tuple hT
  simp only at hc hd
  subst hc hd
  refine wpAny_binaryOp_repeat_ref (T := "tuple") (U := "int") (by decide) ⟨_, ho, rfl⟩ (fun s' => typeIs_int s' 1 t) noFill_tuple_mul F.fills_int_mul F.slot_int_rmul repeat_tuple F.slot_int_index.lookup
    (call_meets F.slot_int_rmul (typeIs_int s 1 t) F.entry_int_rmul (F.args_int_rmul_2 _ _) (int_rmul_tuple 1 t l its.toArray n dd sl)
      ⟨ho, rfl, ⟨_, ho, rfl⟩, call_meets F.slot_tuple_mul ⟨_, ho, rfl⟩ F.entry_tuple_mul (F.args_tuple_mul_2 _ _) (mul_once l its.toArray n dd sl t) ⟨ho, ?_⟩⟩)
  exact ⟨.ref l, H, I, rfl, q⟩
abbrev rTimesX (K : PySem.W.Frag) : R2 := fun x y H Q => (rI CMul fun i j => .int (i * j)) x y H Q ∨ (rTimes K x y H Q ∨ (rRep1 K x y H Q ∨ rRepT K x y H Q))
theorem op_timesX : OpR X (binaryOp .Mult) (rTimesX X.K) := op_mul.or (op_times.or (op_rep1.or op_repT))
end
instance : ∀ i j, Decidable (CMul i j) := fun i j => by unfold CMul; infer_instance
def oTimesX : O2 := fun t u => match t, u with
  | .int i, .int j => if CMul i j ∨ CMulW i j then some (.int (i * j)) else none
  | .tup l, .int k => if k = 1 ∧ l.length ≤ sizeLine then some (.tup l) else if l ≠ [] ∧ 2 ≤ k ∧ k ≤ 1000 ∧ l.length ≤ 1000 then some (.tup (List.replicate k.toNat l).flatten) else none
  | t, u => oTimes t u
theorem repL_rep {K : PySem.W.Frag} {F : Fz} {H : Hp} {l : List T} {xs : List V} (r : RepL K F H l xs) : ∀ n : Nat, RepL K F H (List.replicate n l).flatten (List.replicate n xs).flatten
  | 0 => .nil
  | n + 1 => by
    rw [List.replicate_succ, List.replicate_succ, List.flatten_cons, List.flatten_cons]
    exact r.append (repL_rep r n)
theorem k_timesX {K : PySem.W.Frag} : Z2 K (rTimesX K) (fo2 oTimesX) := by
  intro F H t u v w Q Qd hf r1 r2 ⟨r, h1, h2⟩ q
  have key : oTimes t u = some r → rTimesX K v w H Q := fun h => .inr (.inl (k_times F H t u v w Q Qd hf r1 r2 ⟨r, h, h2⟩ q))
  cases t with
  | int i =>
    cases u with
    | int j =>
      obtain ⟨z, rfl⟩ := ite_some (show (if CMul i j ∨ CMulW i j then some (T.int (i * j)) else none) = some r from h1)
      by_cases c : CMulW i j
      · exact key (by show (if CMulW i j then some (T.int (i * j)) else none) = _; rw [if_pos c])
      · have e1 := rep_intE (show Rep K F H (.int i) v from r1)
        have e2 := rep_intE (show Rep K F H (.int j) w from r2)
        subst e1 e2
        exact .inl ⟨i, j, rfl, rfl, z.resolve_right c, pok_here hf q h2 rep_int⟩
    | _ => exact key h1
  | tup l =>
    cases u with
    | int k =>
      have h1' : (if k = 1 ∧ l.length ≤ sizeLine then some (T.tup l) else if l ≠ [] ∧ 2 ≤ k ∧ k ≤ 1000 ∧ l.length ≤ 1000 then some (T.tup (List.replicate k.toNat l).flatten) else none) = some r := h1
      obtain ⟨a, xs, rfl, e, rl⟩ := r1
      have ew := rep_intE (show Rep K F H (.int k) w from r2)
      subst ew
      by_cases z : k = 1 ∧ l.length ≤ sizeLine
      · rw [if_pos z] at h1'
        cases h1'
        obtain ⟨rfl, z⟩ := z
        refine .inr (.inr (.inl ⟨a, xs, rfl, rfl, e.sq, ?_⟩))
        refine q _ h2 _ H F (.refl hf) ?_
        unfold Rep
        exact ⟨z, a, xs, rfl, e, rl⟩
      · rw [if_neg z] at h1'
        obtain ⟨⟨z1, z2, z3, z4⟩, h1'⟩ := ite_some h1'
        subst h1'
        refine .inr (.inr (.inr ⟨a, k, xs, rfl, rfl, e.sq, fun h => z1 ?_, z2, z3, by rw [rl.length]; exact z4, fun p hp => ?_⟩))
        · rw [h] at rl
          cases l with
          | nil => rfl
          | cons x l => unfold RepL at rl; obtain ⟨_, _, e, _⟩ := rl; cases e
        · have g := Gro.newT (o := .tup (List.replicate k.toNat xs).flatten) hf hp
          refine q _ h2 _ _ F g (rep_tup ?_ upd_same g (repL_rep rl _))
          have hl : ∀ n : Nat, (List.replicate n l).flatten.length = n * l.length := fun n => by induction n with
            | zero => simp
            | succ n ih => rw [List.replicate_succ, List.flatten_cons, List.length_append, ih, Nat.succ_mul]; omega
          rw [hl, sizeLine_eq]
          have : k.toNat * l.length ≤ 1000 * 1000 := Nat.mul_le_mul (by omega) z4
          omega
    | _ => exact key h1
  | _ => exact key h1
/-! ### a, b = e, f -/
section
variable {X : Cx} {W : WX} {a b : Expr} {pos px py pt pt2 : Pos} {kt k2 : Nat} {x y : Str} {wa : WAr} {gs : Sa}
def wPar (i j : Nat) (wa : WAr) : WSt := fun G ρ μ => wa ρ μ (fun ds μ1 => ∃ d e, ds = [d, e] ∧ G.nx ((ρ.set i (some d)).set j (some e)) μ1) fun e μ' => G.er e ρ μ'
theorem zs_par (i j : Nat) (hc : X.calm = true) (hN : X.N.Nodup) (ha : ZA X W [a, b] wa) (hi : X.N[i]? = some x := by rfl) (hj : X.N[j]? = some y := by rfl) (hij : i ≠ j := by decide) (hx : X.env.scope.names.lookup x = some .local := by rfl) (hy : X.env.scope.names.lookup y = some .local := by rfl)
    (hw : swappedStores [.Tuple [.Name x px, .Name y py] kt pt] (.Tuple [a, b] k2 pt2) X.env = pure (some [x, y]) := by rfl) : ZS X W (.Assign [.Tuple [.Name x px, .Name y py] kt pt] (.Tuple [a, b] k2 pt2) pos) (wPar i j wa) :=
  ⟨PS.imp (ps_par (hc := hc) (hN := hN) (hi := hi) (hj := hj) (hij := hij) (hx := hx) (hy := hy) (hw := hw) ha.pa) fun D σ H ⟨F, β, ρ, μ, G, s, l, g, w⟩ => ⟨F, β, ρ, μ, _, _, s, l, fun ds μ1 ⟨d, e, h1, h2⟩ vs H1 F1 β1 st s1 r1 => by
    subst h1
    obtain ⟨u, v, rfl, ru, rv⟩ := two_d r1
    exact ⟨u, v, rfl, g.nx _ μ1 h2 _ H1 F1 β1 st s1 (((l.stp st).set i ru).set j rv)⟩, g.eok l, w⟩⟩
def msPar (i j : Nat) (gs : Sa) : Ms := fun ρ μ => liftM (gs ρ μ) ρ fun ds μ1 => match ds with
  | [d, e] => some (.nx ((ρ.set i (some d)).set j (some e)) μ1)
  | _ => none
theorem ms_par (i j : Nat) (hc : X.calm = true) (hN : X.N.Nodup) (ha : MA X W [a, b] gs) (hi : X.N[i]? = some x := by rfl) (hj : X.N[j]? = some y := by rfl) (hij : i ≠ j := by decide) (hx : X.env.scope.names.lookup x = some .local := by rfl) (hy : X.env.scope.names.lookup y = some .local := by rfl)
    (hw : swappedStores [.Tuple [.Name x px, .Name y py] kt pt] (.Tuple [a, b] k2 pt2) X.env = pure (some [x, y]) := by rfl) : MS X W (.Assign [.Tuple [.Name x px, .Name y py] kt pt] (.Tuple [a, b] k2 pt2) pos) (msPar i j gs) :=
  ⟨(zs_par i j hc hN ha.z hi hj hij hx hy hw).imp fun G ρ μ h => Sr.run_mono (liftM_run h) (fun ds μ1 h => by
    match ds, h with
    | [d, e], h => exact ⟨d, e, rfl, h⟩) fun _ _ h => h⟩
def sPar (i j : Nat) (gs : Ga) : Gs := fun ρ μ => lift (gs ρ μ) ρ fun ts => match ts with
  | [d, e] => some (.nx ((ρ.set i (some (.t d))).set j (some (.t e))))
  | _ => none
theorem gs_par {gs : Ga} (i j : Nat) (hc : X.calm = true) (hN : X.N.Nodup) (ha : GA X W [a, b] gs) (hi : X.N[i]? = some x := by rfl) (hj : X.N[j]? = some y := by rfl) (hij : i ≠ j := by decide) (hx : X.env.scope.names.lookup x = some .local := by rfl) (hy : X.env.scope.names.lookup y = some .local := by rfl)
    (hw : swappedStores [.Tuple [.Name x px, .Name y py] kt pt] (.Tuple [a, b] k2 pt2) X.env = pure (some [x, y]) := by rfl) : GS X W (.Assign [.Tuple [.Name x px, .Name y py] kt pt] (.Tuple [a, b] k2 pt2) pos) (sPar i j gs) :=
  ⟨(zs_par i j hc hN ha.z hi hj hij hx hy hw).imp fun G ρ μ h => Pr.run_mono (lift_run h) (fun ds h => by
    match ds, h with
    | [d, e], h => exact ⟨.t d, .t e, rfl, h⟩) fun _ h => h⟩
end
end Zy
set_option Elab.async false
set_option linter.all false
set_option maxRecDepth 100000
/-! ZX: the combinators' equations, at their states. -/
namespace Zy
open PySem PySem.Spec PyProof.Rows L2
section
variable {K : PySem.W.Frag}

theorem ap_gVar (i : Nat) (ρ : En) (μ : Mu) : Zy.gVar i ρ μ = (Pr.of (match ρ[i]? with
  | some (some d) => vw μ d
  | _ => none)) := id rfl
theorem ap_gVarT (i : Nat) (ρ : En) (μ : Mu) : Zy.gVarT i ρ μ = (match ρ[i]? with
  | some (some (.t t)) => .ok t
  | _ => .bad) := id rfl
theorem ap_g1 (f : O1) (ga : Gx) (ρ : En) (μ : Mu) : Zy.g1 f ga ρ μ = ((ga ρ μ).bind fun x => .of (f x)) := id rfl
theorem ap_g2 (f : O2) (ga gb : Gx) (ρ : En) (μ : Mu) : Zy.g2 f ga gb ρ μ = ((ga ρ μ).bind fun x => (gb ρ μ).bind fun y => .of (f x y)) := id rfl
theorem ap_gN (f : ON) (ga : Ga) (ρ : En) (μ : Mu) : Zy.gN f ga ρ μ = ((ga ρ μ).bind fun x => .of (f x)) := id rfl
theorem ap_gNil (u0 : En) (u1 : Mu) : Zy.gNil  u0 u1 = (.ok []) := id rfl
theorem ap_gCons (ga : Gx) (gs : Ga) (ρ : En) (μ : Mu) : Zy.gCons ga gs ρ μ = ((ga ρ μ).bind fun x => (gs ρ μ).bind fun l => .ok (x :: l)) := id rfl
theorem ap_gLst (gs : Ga) (ρ : En) (μ : Mu) : Zy.gLst gs ρ μ = ((gs ρ μ).bind fun l => .of ((szL l).map .lst)) := id rfl
theorem ap_gTup (gs : Ga) (ρ : En) (μ : Mu) : Zy.gTup gs ρ μ = ((gs ρ μ).bind fun l => .of ((szL l).map .tup)) := id rfl
theorem ap_gTru (ga : Gx) (ρ : En) (μ : Mu) : Zy.gTru ga ρ μ = ((ga ρ μ).bind fun t => .of (truT t)) := id rfl
theorem ap_gBl (ga : Gx) (ρ : En) (μ : Mu) : Zy.gBl ga ρ μ = ((ga ρ μ).bind fun t => .of (blT t)) := id rfl
theorem ap_gAndT (ga gb : Gb) (ρ : En) (μ : Mu) : Zy.gAndT ga gb ρ μ = ((ga ρ μ).bind fun k => if k = true then gb ρ μ else .ok false) := id rfl
theorem ap_gOrT (ga gb : Gb) (ρ : En) (μ : Mu) : Zy.gOrT ga gb ρ μ = ((ga ρ μ).bind fun k => if k = true then .ok true else gb ρ μ) := id rfl
theorem ap_gNotT (ga : Gb) (ρ : En) (μ : Mu) : Zy.gNotT ga ρ μ = ((ga ρ μ).bind fun k => .ok (!k)) := id rfl
theorem ap_gIf (gc : Gb) (ga gb : Gx) (ρ : En) (μ : Mu) : Zy.gIf gc ga gb ρ μ = ((gc ρ μ).bind fun k => if k = true then ga ρ μ else gb ρ μ) := id rfl
theorem ap_gAndV (ga gb : Gx) (ρ : En) (μ : Mu) : Zy.gAndV ga gb ρ μ = ((ga ρ μ).bind fun t => (Pr.of (truT t)).bind fun k => if k = true then gb ρ μ else .ok t) := id rfl
theorem ap_gOrV (ga gb : Gx) (ρ : En) (μ : Mu) : Zy.gOrV ga gb ρ μ = ((ga ρ μ).bind fun t => (Pr.of (truT t)).bind fun k => if k = true then .ok t else gb ρ μ) := id rfl
theorem ap_gNotV (ga : Gx) (ρ : En) (μ : Mu) : Zy.gNotV ga ρ μ = ((ga ρ μ).bind fun t => (Pr.of (truT t)).bind fun k => .ok (.bl !k)) := id rfl
theorem ap_gCall (f : List T → Pr T) (dts : List T) (gs : Ga) (ρ : En) (μ : Mu) : Zy.gCall f dts gs ρ μ = ((gs ρ μ).bind fun l => f (l ++ dts)) := id rfl
theorem ap_goNone (u0 : En) (u1 : Mu) : Zy.goNone  u0 u1 = (.ok none) := id rfl
theorem ap_goSome (g : Gx) (ρ : En) (μ : Mu) : Zy.goSome g ρ μ = ((g ρ μ).bind fun t => .of ((intT t).map some)) := id rfl
theorem ap_gSl (ga : Gx) (gl gh : Go) (ρ : En) (μ : Mu) : Zy.gSl ga gl gh ρ μ = ((ga ρ μ).bind fun t => (gl ρ μ).bind fun lo => (gh ρ μ).bind fun hi => .of (slT lo hi t)) := id rfl
theorem ap_giSeq (g : Gx) (ρ : En) (μ : Mu) : Zy.giSeq g ρ μ = ((g ρ μ).bind fun t => .of (itmT t)) := id rfl
theorem ap_tgName (i : Nat) (t : T) (ρ : En) : Zy.tgName i t ρ = (some (ρ.set i (some (.t t)))) := id rfl
theorem ap_tgNil (l : List T) (ρ : En) : Zy.tgNil  l ρ = (match l with
  | [] => some ρ
  | _ => none) := id rfl
theorem ap_tgCons (a : Tg) (b : Tgs) (l : List T) (ρ : En) : Zy.tgCons a b l ρ = (match l with
  | x :: r => (a x ρ).bind (b r)
  | [] => none) := id rfl
theorem ap_tgTup (n : Nat) (b : Tgs) (t : T) (ρ : En) : Zy.tgTup n b t ρ = (match t with
  | .tup l => if l.length = n then b l ρ else none
  | _ => none) := id rfl
theorem ap_gLc (gi : Ga) (tg : Tg) (gt : Gb) (ge : Gx) (vs : List Nat) (ρ : En) (μ : Mu) : Zy.gLc gi tg gt ge vs ρ μ = ((gi ρ μ).bind fun l => if l.length ≤ sizeLine then (compO tg gt ge (wipeE ρ vs) μ l []).bind fun r => .ok (.lst r) else .bad) := id rfl
theorem ap_gYes (u0 : En) (u1 : Mu) : Zy.gYes  u0 u1 = (.ok true) := id rfl
theorem ap_sNext (ρ : En) (u1 : Mu) : Zy.sNext  ρ u1 = (some (.nx ρ)) := id rfl
theorem ap_sSeq (a b : Gs) (ρ : En) (μ : Mu) : Zy.sSeq a b ρ μ = (match a ρ μ with
  | some (.nx ρ') => b ρ' μ
  | o => o) := id rfl
theorem ap_sRet (g : Gx) (ρ : En) (μ : Mu) : Zy.sRet g ρ μ = (lift (g ρ μ) ρ fun t => some (.rt t)) := id rfl
theorem ap_sRetN (u0 : En) (u1 : Mu) : Zy.sRetN  u0 u1 = (some (.rt .non)) := id rfl
theorem ap_sIf (gc : Gb) (a b : Gs) (ρ : En) (μ : Mu) : Zy.sIf gc a b ρ μ = (lift (gc ρ μ) ρ fun k => if k = true then a ρ μ else b ρ μ) := id rfl
theorem ap_sAsg (g : Gx) (tg : Tg) (ρ : En) (μ : Mu) : Zy.sAsg g tg ρ μ = (lift (g ρ μ) ρ fun t => (tg t ρ).map .nx) := id rfl
theorem ap_sBrk (ρ : En) (u1 : Mu) : Zy.sBrk  ρ u1 = (some (.bk ρ)) := id rfl
theorem ap_sCnt (ρ : En) (u1 : Mu) : Zy.sCnt  ρ u1 = (some (.ct ρ)) := id rfl
theorem ap_sNever (u0 : En) (u1 : Mu) : Zy.sNever  u0 u1 = (none) := id rfl
theorem ap_sDrop (g : Gx) (ρ : En) (μ : Mu) : Zy.sDrop g ρ μ = (lift (g ρ μ) ρ fun _ => some (.nx ρ)) := id rfl
theorem ap_sRaise (C : Addr) (f : Str) (g : Gx) (ρ : En) (μ : Mu) : Zy.sRaise C f g ρ μ = (lift (g ρ μ) ρ fun t => some (.er (.own C [f] [t]) ρ)) := id rfl
theorem ap_sFor (gi : Ga) (tg : Tg) (body : Gs) (ρ : En) (μ : Mu) : Zy.sFor gi tg body ρ μ = (lift (gi ρ μ) ρ fun l => forO tg body μ l ρ) := id rfl
theorem ap_mP (g : Gx) (ρ : En) (μ : Mu) : Zy.mP g ρ μ = (match g ρ μ with
  | .ok t => .ok (.t t) μ
  | .er e => .er e μ
  | .bad => .bad) := id rfl
theorem ap_mC (t : T) (u0 : En) (μ : Mu) : Zy.mC t u0 μ = (.ok (.t t) μ) := id rfl
theorem ap_mVar (i : Nat) (ρ : En) (μ : Mu) : Zy.mVar i ρ μ = (match ρ[i]? with
  | some (some d) => .ok d μ
  | _ => .bad) := id rfl
theorem ap_m1 (f : O1) (ga : Sx) (ρ : En) (μ : Mu) : Zy.m1 f ga ρ μ = ((ga ρ μ).bind fun d μ1 => .of ((vw μ1 d).bind fun t => (f t).map D.t) μ1) := id rfl
theorem ap_m2 (f : O2) (ga gb : Sx) (ρ : En) (μ : Mu) : Zy.m2 f ga gb ρ μ = ((ga ρ μ).bind fun d μ1 => (gb ρ μ1).bind fun d' μ2 => .of ((vw μ2 d).bind fun t => (vw μ2 d').bind fun t' => (f t t').map D.t) μ2) := id rfl
theorem ap_mN (f : ON) (gs : Sa) (ρ : En) (μ : Mu) : Zy.mN f gs ρ μ = ((gs ρ μ).bind fun ds μ1 => .of ((vws μ1 ds).bind fun ts => (f ts).map D.t) μ1) := id rfl
theorem ap_mIx (ga gb : Sx) (ρ : En) (μ : Mu) : Zy.mIx ga gb ρ μ = ((ga ρ μ).bind fun d μ1 => (gb ρ μ1).bind fun d' μ2 => .of (match d' with
  | .t (.int k) => (itS μ2 d).bind fun l => atI l k
  | _ => none) μ2) := id rfl
theorem ap_mNil (u0 : En) (μ : Mu) : Zy.mNil  u0 μ = (.ok [] μ) := id rfl
theorem ap_mCons (ga : Sx) (gs : Sa) (ρ : En) (μ : Mu) : Zy.mCons ga gs ρ μ = ((ga ρ μ).bind fun x μ1 => (gs ρ μ1).bind fun l μ2 => .ok (x :: l) μ2) := id rfl
theorem ap_mLst (gs : Sa) (ρ : En) (μ : Mu) : Zy.mLst gs ρ μ = ((gs ρ μ).bind fun ds μ1 => if ds.length ≤ sizeLine then .of ((unT ds).map fun l => .t (.lst l)) μ1 else .bad) := id rfl
theorem ap_mLstR (gs : Sa) (ρ : En) (μ : Mu) : Zy.mLstR gs ρ μ = ((gs ρ μ).bind fun ds μ1 => if ds.length ≤ sizeLine then .ok (.r μ1.length) (μ1 ++ [.lst ds]) else .bad) := id rfl
theorem ap_mTup (gs : Sa) (ρ : En) (μ : Mu) : Zy.mTup gs ρ μ = ((gs ρ μ).bind fun ds μ1 => if ds.length ≤ sizeLine then (match unT ds with
  | some l => .ok (.t (.tup l)) μ1
  | none => .ok (.r μ1.length) (μ1 ++ [.tup ds])) else .bad) := id rfl
theorem ap_mTru (ga : Sx) (ρ : En) (μ : Mu) : Zy.mTru ga ρ μ = ((ga ρ μ).bind fun d μ1 => .of ((vw μ1 d).bind truT) μ1) := id rfl
theorem ap_mBl (ga : Sx) (ρ : En) (μ : Mu) : Zy.mBl ga ρ μ = ((ga ρ μ).bind fun d μ1 => .of (blD d) μ1) := id rfl
theorem ap_mAndT (ga gb : Sb) (ρ : En) (μ : Mu) : Zy.mAndT ga gb ρ μ = ((ga ρ μ).bind fun k μ1 => if k = true then gb ρ μ1 else .ok false μ1) := id rfl
theorem ap_mOrT (ga gb : Sb) (ρ : En) (μ : Mu) : Zy.mOrT ga gb ρ μ = ((ga ρ μ).bind fun k μ1 => if k = true then .ok true μ1 else gb ρ μ1) := id rfl
theorem ap_mNotT (ga : Sb) (ρ : En) (μ : Mu) : Zy.mNotT ga ρ μ = ((ga ρ μ).bind fun k μ1 => .ok (!k) μ1) := id rfl
theorem ap_mIf (gc : Sb) (ga gb : Sx) (ρ : En) (μ : Mu) : Zy.mIf gc ga gb ρ μ = ((gc ρ μ).bind fun k μ1 => if k = true then ga ρ μ1 else gb ρ μ1) := id rfl
theorem ap_mAndV (ga gb : Sx) (ρ : En) (μ : Mu) : Zy.mAndV ga gb ρ μ = ((ga ρ μ).bind fun d μ1 => (Sr.of ((vw μ1 d).bind truT) μ1).bind fun k μ1 => if k = true then gb ρ μ1 else .ok d μ1) := id rfl
theorem ap_mOrV (ga gb : Sx) (ρ : En) (μ : Mu) : Zy.mOrV ga gb ρ μ = ((ga ρ μ).bind fun d μ1 => (Sr.of ((vw μ1 d).bind truT) μ1).bind fun k μ1 => if k = true then .ok d μ1 else gb ρ μ1) := id rfl
theorem ap_mNotV (ga : Sx) (ρ : En) (μ : Mu) : Zy.mNotV ga ρ μ = ((ga ρ μ).bind fun d μ1 => (Sr.of ((vw μ1 d).bind truT) μ1).bind fun k μ1 => .ok (.t (.bl !k)) μ1) := id rfl
theorem ap_moNone (u0 : En) (μ : Mu) : Zy.moNone  u0 μ = (.ok none μ) := id rfl
theorem ap_moSome (g : Sx) (ρ : En) (μ : Mu) : Zy.moSome g ρ μ = ((g ρ μ).bind fun d μ1 => .of ((intD d).map some) μ1) := id rfl
theorem ap_mSl (ga : Sx) (gl gh : So) (ρ : En) (μ : Mu) : Zy.mSl ga gl gh ρ μ = ((ga ρ μ).bind fun d μ1 => (gl ρ μ1).bind fun lo μ2 => (gh ρ μ2).bind fun hi μ3 => .of ((vw μ3 d).bind fun t => (slT lo hi t).map D.t) μ3) := id rfl
theorem ap_miSeq (g : Sx) (ρ : En) (μ : Mu) : Zy.miSeq g ρ μ = ((g ρ μ).bind fun d μ1 => .of (itmD μ1 d) μ1) := id rfl
theorem ap_mgName (i : Nat) (d : D) (ρ : En) (μ : Mu) : Zy.mgName i d ρ μ = (some (ρ.set i (some d), μ)) := id rfl
theorem ap_mgNil (ds : List D) (ρ : En) (μ : Mu) : Zy.mgNil  ds ρ μ = (match ds with
  | [] => some (ρ, μ)
  | _ => none) := id rfl
theorem ap_mgCons (a : Mg) (b : Mgs) (ds : List D) (ρ : En) (μ : Mu) : Zy.mgCons a b ds ρ μ = (match ds with
  | d :: r => (a d ρ μ).bind fun q => b r q.1 q.2
  | [] => none) := id rfl
theorem ap_mgTup (n : Nat) (b : Mgs) (d : D) (ρ : En) (μ : Mu) : Zy.mgTup n b d ρ μ = ((itT μ d).bind fun ds => if ds.length = n then b ds ρ μ else none) := id rfl
theorem ap_mgSub (go gi : Sx) (d : D) (ρ : En) (μ : Mu) : Zy.mgSub go gi d ρ μ = (match go ρ μ with
  | .ok (.r i) μ1 => match gi ρ μ1 with
    | .ok (.t (.int k)) μ2 => match μ2[i]? with
      | some (.lst l) => (ixN l.length k).map fun j => (ρ, μ2.set i (.lst (l.set j d)))
      | _ => none
    | _ => none
  | _ => none) := id rfl
theorem ap_mLc (gi : Sw) (tg : Mg) (gt : Sb) (ge : Sx) (vs : List Nat) (ρ : En) (μ : Mu) : Zy.mLc gi tg gt ge vs ρ μ = ((gi ρ μ).bind fun p μ1 => if p.1.length ≤ sizeLine then (compM p.2 tg gt ge (wipeE ρ vs) p.1 [] μ1).bind fun r μ2 => .of ((unT r).map fun l => .t (.lst l)) μ2 else .bad) := id rfl
theorem ap_mLcR (gi : Sw) (tg : Mg) (gt : Sb) (ge : Sx) (vs : List Nat) (ρ : En) (μ : Mu) : Zy.mLcR gi tg gt ge vs ρ μ = ((gi ρ μ).bind fun p μ1 => if p.1.length ≤ sizeLine then (compM p.2 tg gt ge (wipeE ρ vs) p.1 [] μ1).bind fun r μ2 => .ok (.r μ2.length) (μ2 ++ [.lst r]) else .bad) := id rfl
theorem ap_mYes (u0 : En) (μ : Mu) : Zy.mYes  u0 μ = (.ok true μ) := id rfl
theorem ap_msNext (ρ : En) (μ : Mu) : Zy.msNext  ρ μ = (some (.nx ρ μ)) := id rfl
theorem ap_msSeq (a b : Ms) (ρ : En) (μ : Mu) : Zy.msSeq a b ρ μ = (match a ρ μ with
  | some (.nx ρ' μ') => b ρ' μ'
  | o => o) := id rfl
theorem ap_msRet (g : Sx) (ρ : En) (μ : Mu) : Zy.msRet g ρ μ = (liftM (g ρ μ) ρ fun d μ1 => some (.rt d μ1)) := id rfl
theorem ap_msRetF (g : Sx) (ρ : En) (μ : Mu) : Zy.msRetF g ρ μ = (liftM (g ρ μ) ρ fun d μ1 => (frz μ1 d).map fun q => .rt (.t q.1) q.2) := id rfl
theorem ap_msRetN (u0 : En) (μ : Mu) : Zy.msRetN  u0 μ = (some (.rt (.t .non) μ)) := id rfl
theorem ap_msIf (gc : Sb) (a b : Ms) (ρ : En) (μ : Mu) : Zy.msIf gc a b ρ μ = (liftM (gc ρ μ) ρ fun k μ1 => if k = true then a ρ μ1 else b ρ μ1) := id rfl
theorem ap_msAsg (g : Sx) (tg : Mg) (ρ : En) (μ : Mu) : Zy.msAsg g tg ρ μ = (liftM (g ρ μ) ρ fun d μ1 => (tg d ρ μ1).map fun q => .nx q.1 q.2) := id rfl
theorem ap_msBrk (ρ : En) (μ : Mu) : Zy.msBrk  ρ μ = (some (.bk ρ μ)) := id rfl
theorem ap_msCnt (ρ : En) (μ : Mu) : Zy.msCnt  ρ μ = (some (.ct ρ μ)) := id rfl
theorem ap_msDrop (g : Sx) (ρ : En) (μ : Mu) : Zy.msDrop g ρ μ = (liftM (g ρ μ) ρ fun _ μ1 => some (.nx ρ μ1)) := id rfl
theorem ap_msFz (i : Nat) (ρ : En) (μ : Mu) : Zy.msFz i ρ μ = (match ρ[i]? with
  | some (some (.r k)) => (frz μ (.r k)).map fun q => .nx (ρ.set i (some (.t q.1))) q.2
  | some (some (.t t)) => some (.nx ρ μ)
  | _ => none) := id rfl
theorem ap_msFor (gi : Sw) (tg : Mg) (body : Ms) (ρ : En) (μ : Mu) : Zy.msFor gi tg body ρ μ = (liftM (gi ρ μ) ρ fun p μ1 => forM' p.2 tg body p.1 ρ μ1) := id rfl
theorem ap_mApp (go ga : Sx) (ρ : En) (μ : Mu) : Zy.mApp go ga ρ μ = ((go ρ μ).bind fun d μ1 => match d with
  | .r i => match μ1[i]? with
    | some (.lst _) => (ga ρ μ1).bind fun y μ2 => match μ2[i]? with
      | some (.lst l) => if l.length < sizeLine then .ok (.t .non) (μ2.set i (.lst (l ++ [y]))) else .bad
      | _ => .bad
    | _ => .bad
  | _ => .bad) := id rfl
theorem ap_mCall (f : Fm) (dts : List T) (n : Nat) (gs : Sa) (ρ : En) (μ : Mu) : Zy.mCall f dts n gs ρ μ = ((gs ρ μ).bind fun ds μ1 => if ds.length + dts.length = n then (match sub μ1 (refs ds) with
  | none => .bad
  | some μs => match f (ds.map (ren (refs ds)) ++ dts.map D.t) μs with
    | .bad => .bad
    | .ok d μ' => backM μ1 (refs ds) d μ'
    | .er e μ' => if (refs ds).length ≤ μ'.length ∧ allP (μ'.take (refs ds).length) = true then .er e (put μ1 (refs ds) (μ'.take (refs ds).length)) else .bad) else .bad) := id rfl
theorem ap_mCallP (f : List T → Pr T) (dts : List T) (n : Nat) (gs : Sa) (ρ : En) (μ : Mu) : Zy.mCallP f dts n gs ρ μ = ((gs ρ μ).bind fun ds μ1 => if ds.length + dts.length = n then (match unT ds with
  | some ts => (match f (ts ++ dts) with
    | .ok r => .ok (.t r) μ1
    | .er e => .er e μ1
    | .bad => .bad)
  | none => match Zy.dvs (dvw 4 μ1) ds with
    | some ts => (match f (ts ++ dts) with
      | .ok r => if leafT r = true then .ok (.t r) μ1 else .bad
      | _ => .bad)
    | none => .bad) else .bad) := id rfl
theorem ap_msRaise (C : Addr) (f : Str) (g : Sx) (ρ : En) (μ : Mu) : Zy.msRaise C f g ρ μ = (liftM (g ρ μ) ρ fun d μ1 => (frz μ1 d).map fun q => .er (.own C [f] [q.1]) ρ q.2) := id rfl
theorem ap_mErrF (C : Addr) (f : Str) (a : Addr) (cls : Value) (d : Option Addr) (g : Sx) (ρ : En) (μ : Mu) : Zy.mErrF C f a cls d g ρ μ = ((g ρ μ).bind fun y μ1 => match y, cls, d with
  | .t (.er a' dd' [f'] [t]), .ref C', some dd => if a' = a ∧ dd' = dd ∧ f' = f ∧ C' = C then .ok (.t t) μ1 else .bad
  | _, _, _ => .bad) := id rfl
theorem ap_mFz (g : Sx) (ρ : En) (μ : Mu) : Zy.mFz g ρ μ = ((g ρ μ).bind fun d μ1 => match frz μ1 d with
  | some q => .ok (.t q.1) q.2
  | none => .bad) := id rfl
theorem ap_mCallK (f : Fm) (perm : List Nat) (m n : Nat) (gs : Sa) (ρ : En) (μ : Mu) : Zy.mCallK f perm m n gs ρ μ = ((gs ρ μ).bind fun ds0 μ1 => if ds0.length = m then (if (pick perm ds0).length + ([] : List T).length = n then (match sub μ1 (refs (pick perm ds0)) with
  | none => .bad
  | some μs => match f ((pick perm ds0).map (ren (refs (pick perm ds0))) ++ ([] : List T).map D.t) μs with
    | .bad => .bad
    | .ok d μ' => backM μ1 (refs (pick perm ds0)) d μ'
    | .er e μ' => if (refs (pick perm ds0)).length ≤ μ'.length ∧ allP (μ'.take (refs (pick perm ds0)).length) = true then .er e (put μ1 (refs (pick perm ds0)) (μ'.take (refs (pick perm ds0)).length)) else .bad) else .bad) else .bad) := id rfl
theorem ap_mD1 (key : Key) (g : Sx) (ρ : En) (μ : Mu) : Zy.mD1 key g ρ μ = ((g ρ μ).only.bind fun d μ1 => match d with
  | .t t => .ok (.t (.dk [key] [t])) μ1
  | _ => .bad) := id rfl
theorem ap_mNew (C : Addr) (f : Fm) (n : Nat) (gs : Sa) (ρ : En) (μ : Mu) : Zy.mNew C f n gs ρ μ = ((gs ρ μ).bind fun ds μ1 => (mCall f [] n (fun _ μ2 => .ok (.r μ1.length :: ds) μ2) ρ (μ1 ++ [.ins C [] []])).bind fun d μ3 => match d with
  | .t .non => .ok (.r μ1.length) μ3
  | _ => .bad) := id rfl
theorem ap_msBad (u0 : En) (u1 : Mu) : Zy.msBad  u0 u1 = (none) := id rfl
theorem ap_mMake (C : Addr) (f : Fm) (n : Nat) (gs : Sa) (ρ : En) (μ : Mu) : Zy.mMake C f n gs ρ μ = (match gs ρ μ with
  | .ok ds μ1 => (mNew C f n (fun _ _ => .ok ds μ1) ρ μ1).only
  | .er e μ1 => .er e μ1
  | .bad => .bad) := id rfl
theorem ap_msPar (i j : Nat) (gs : Sa) (ρ : En) (μ : Mu) : Zy.msPar i j gs ρ μ = (liftM (gs ρ μ) ρ fun ds μ1 => match ds with
  | [d, e] => some (.nx ((ρ.set i (some d)).set j (some e)) μ1)
  | _ => none) := id rfl
theorem ap_sPar (i j : Nat) (gs : Ga) (ρ : En) (μ : Mu) : Zy.sPar i j gs ρ μ = (lift (gs ρ μ) ρ fun ts => match ts with
  | [d, e] => some (.nx ((ρ.set i (some (.t d))).set j (some (.t e))))
  | _ => none) := id rfl
theorem ap_giO (f : List T → Option (List T)) (gs : Ga) (ρ : En) (μ : Mu) : Zy.giO f gs ρ μ = ((gs ρ μ).bind fun l => .of (f l)) := id rfl
theorem sb_ok {α β : Type} (a : α) (μ : Mu) (f : α → Mu → Sr β) : (Sr.ok a μ).bind f = f a μ := id rfl
theorem sb_er {α β : Type} (e : Err) (μ : Mu) (f : α → Mu → Sr β) : (Sr.er (α := α) e μ).bind f = .er e μ := id rfl
theorem sl_ok {α : Type} (a : α) (μ : Mu) (ρ : En) (k : α → Mu → Option Mo) : Zy.liftM (Sr.ok a μ) ρ k = k a μ := id rfl
theorem sl_er {α : Type} (e : Err) (μ : Mu) (ρ : En) (k : α → Mu → Option Mo) : Zy.liftM (Sr.er (α := α) e μ) ρ k = some (.er e ρ μ) := id rfl
theorem so_ok {α : Type} (a : α) (μ : Mu) : Sr.of (some a) μ = .ok a μ := id rfl
theorem sn_ok {α : Type} (a : α) (μ : Mu) : (Sr.ok a μ).only = .ok a μ := id rfl
theorem pb_ok {α β : Type} (a : α) (f : α → Pr β) : (Pr.ok a).bind f = f a := id rfl
theorem pb_er {α β : Type} (e : Err) (f : α → Pr β) : (Pr.er (α := α) e).bind f = .er e := id rfl
theorem po_ok {α : Type} (a : α) : Pr.of (some a) = .ok a := id rfl
theorem pn_ok {α : Type} (a : α) : (Pr.ok a).only = .ok a := id rfl
theorem pl_ok {α : Type} (a : α) (ρ : En) (k : α → Option Ou) : Zy.lift (Pr.ok a) ρ k = k a := id rfl
theorem pl_er {α : Type} (e : Err) (ρ : En) (k : α → Option Ou) : Zy.lift (Pr.er (α := α) e) ρ k = some (.er e ρ) := id rfl
theorem sq_nx (a b : Ms) (ρ ρ' : En) (μ μ' : Mu) (h : a ρ μ = some (.nx ρ' μ')) : msSeq a b ρ μ = b ρ' μ' := by unfold msSeq; rw [h]
end
end Zy
set_option Elab.async false
set_option linter.all false
set_option maxRecDepth 100000
set_option maxHeartbeats 1000000
namespace K1
open PySem PySem.Spec PyProof.Rows L2 Zy
def top (i : Nat) : Stmt := PySem.Challenge.pw_anyprice_k01_rows_and_costs.main.body.getD i (.Pass ⟨0, 0, 0, 0⟩)
def inCls (j : Nat) : Stmt → Stmt
  | .ClassDef _ _ _ b _ _ _ _ _ _ _ => b.getD j (.Pass ⟨0, 0, 0, 0⟩)
  | s => s
abbrev gC (t : T) : Gx := fun _ _ => .ok t
def eBadSorts : EcD := ⟨"BadSorts", "sorts", "BadSorts.__init__", ⟨⟨32, 17, 32, 21⟩, ⟨32, 23, 32, 28⟩, ⟨33, 8, 33, 13⟩, ⟨33, 8, 33, 15⟩, ⟨33, 8, 33, 24⟩, ⟨33, 25, 33, 30⟩, ⟨33, 8, 33, 31⟩, ⟨33, 8, 33, 31⟩, ⟨34, 8, 34, 12⟩, ⟨34, 8, 34, 18⟩, ⟨34, 21, 34, 26⟩, ⟨34, 8, 34, 26⟩⟩⟩
def eBadRule : EcD := ⟨"BadRule", "index", "BadRule.__init__", ⟨⟨37, 17, 37, 21⟩, ⟨37, 23, 37, 28⟩, ⟨38, 8, 38, 13⟩, ⟨38, 8, 38, 15⟩, ⟨38, 8, 38, 24⟩, ⟨38, 25, 38, 30⟩, ⟨38, 8, 38, 31⟩, ⟨38, 8, 38, 31⟩, ⟨39, 8, 39, 12⟩, ⟨39, 8, 39, 18⟩, ⟨39, 21, 39, 26⟩, ⟨39, 8, 39, 26⟩⟩⟩
def eBadAmount : EcD := ⟨"BadAmount", "amount", "BadAmount.__init__", ⟨⟨42, 17, 42, 21⟩, ⟨42, 23, 42, 29⟩, ⟨43, 8, 43, 13⟩, ⟨43, 8, 43, 15⟩, ⟨43, 8, 43, 24⟩, ⟨43, 25, 43, 31⟩, ⟨43, 8, 43, 32⟩, ⟨43, 8, 43, 32⟩, ⟨44, 8, 44, 12⟩, ⟨44, 8, 44, 19⟩, ⟨44, 22, 44, 28⟩, ⟨44, 8, 44, 28⟩⟩⟩
def eBadAmounts : EcD := ⟨"BadAmounts", "index", "BadAmounts.__init__", ⟨⟨47, 17, 47, 21⟩, ⟨47, 23, 47, 28⟩, ⟨48, 8, 48, 13⟩, ⟨48, 8, 48, 15⟩, ⟨48, 8, 48, 24⟩, ⟨48, 25, 48, 30⟩, ⟨48, 8, 48, 31⟩, ⟨48, 8, 48, 31⟩, ⟨49, 8, 49, 12⟩, ⟨49, 8, 49, 18⟩, ⟨49, 21, 49, 26⟩, ⟨49, 8, 49, 26⟩⟩⟩
def eBadPrices : EcD := ⟨"BadPrices", "prices", "BadPrices.__init__", ⟨⟨52, 17, 52, 21⟩, ⟨52, 23, 52, 29⟩, ⟨53, 8, 53, 13⟩, ⟨53, 8, 53, 15⟩, ⟨53, 8, 53, 24⟩, ⟨53, 25, 53, 31⟩, ⟨53, 8, 53, 32⟩, ⟨53, 8, 53, 32⟩, ⟨54, 8, 54, 12⟩, ⟨54, 8, 54, 19⟩, ⟨54, 22, 54, 28⟩, ⟨54, 8, 54, 28⟩⟩⟩
structure Ads where
  a_BadSorts : Addr
  i_BadSorts : Addr
  a_BadRule : Addr
  i_BadRule : Addr
  a_BadAmount : Addr
  i_BadAmount : Addr
  a_BadAmounts : Addr
  i_BadAmounts : Addr
  a_BadPrices : Addr
  i_BadPrices : Addr
  o_Program : Addr
  o__law_dot : Addr
structure Fx (P : Program) (w : World) (K : PySem.W.Frag) (mg : Str → Option Value) (base : Heap) (Z : Ads) : Prop where
  m_all : mg "all" = none
  m_any : mg "any" = none
  m_bool : mg "bool" = none
  m_dict : mg "dict" = none
  m_enumerate : mg "enumerate" = none
  m_int : mg "int" = none
  m_isinstance : mg "isinstance" = none
  m_len : mg "len" = none
  m_list : mg "list" = none
  m_max : mg "max" = none
  m_min : mg "min" = none
  m_range : mg "range" = none
  m_repr : mg "repr" = none
  m_set : mg "set" = none
  m_sorted : mg "sorted" = none
  m_str : mg "str" = none
  m_sum : mg "sum" = none
  m_tuple : mg "tuple" = none
  m_zip : mg "zip" = none
  q_BadSorts : OwnErr P K mg "BadSorts" Z.a_BadSorts Z.i_BadSorts eBadSorts.f eBadSorts.z
  q_BadRule : OwnErr P K mg "BadRule" Z.a_BadRule Z.i_BadRule eBadRule.f eBadRule.z
  q_BadAmount : OwnErr P K mg "BadAmount" Z.a_BadAmount Z.i_BadAmount eBadAmount.f eBadAmount.z
  q_BadAmounts : OwnErr P K mg "BadAmounts" Z.a_BadAmounts Z.i_BadAmounts eBadAmounts.f eBadAmounts.z
  q_BadPrices : OwnErr P K mg "BadPrices" Z.a_BadPrices Z.i_BadPrices eBadPrices.f eBadPrices.z
  x_BadSorts_BadSorts : PySem.W.exmOne K (.ref Z.a_BadSorts) (.ref Z.a_BadSorts) = some true
  x_BadSorts_BadRule : PySem.W.exmOne K (.ref Z.a_BadSorts) (.ref Z.a_BadRule) = some false
  x_BadSorts_BadAmount : PySem.W.exmOne K (.ref Z.a_BadSorts) (.ref Z.a_BadAmount) = some false
  x_BadSorts_BadAmounts : PySem.W.exmOne K (.ref Z.a_BadSorts) (.ref Z.a_BadAmounts) = some false
  x_BadSorts_BadPrices : PySem.W.exmOne K (.ref Z.a_BadSorts) (.ref Z.a_BadPrices) = some false
  x_BadRule_BadSorts : PySem.W.exmOne K (.ref Z.a_BadRule) (.ref Z.a_BadSorts) = some false
  x_BadRule_BadRule : PySem.W.exmOne K (.ref Z.a_BadRule) (.ref Z.a_BadRule) = some true
  x_BadRule_BadAmount : PySem.W.exmOne K (.ref Z.a_BadRule) (.ref Z.a_BadAmount) = some false
  x_BadRule_BadAmounts : PySem.W.exmOne K (.ref Z.a_BadRule) (.ref Z.a_BadAmounts) = some false
  x_BadRule_BadPrices : PySem.W.exmOne K (.ref Z.a_BadRule) (.ref Z.a_BadPrices) = some false
  x_BadAmount_BadSorts : PySem.W.exmOne K (.ref Z.a_BadAmount) (.ref Z.a_BadSorts) = some false
  x_BadAmount_BadRule : PySem.W.exmOne K (.ref Z.a_BadAmount) (.ref Z.a_BadRule) = some false
  x_BadAmount_BadAmount : PySem.W.exmOne K (.ref Z.a_BadAmount) (.ref Z.a_BadAmount) = some true
  x_BadAmount_BadAmounts : PySem.W.exmOne K (.ref Z.a_BadAmount) (.ref Z.a_BadAmounts) = some false
  x_BadAmount_BadPrices : PySem.W.exmOne K (.ref Z.a_BadAmount) (.ref Z.a_BadPrices) = some false
  x_BadAmounts_BadSorts : PySem.W.exmOne K (.ref Z.a_BadAmounts) (.ref Z.a_BadSorts) = some false
  x_BadAmounts_BadRule : PySem.W.exmOne K (.ref Z.a_BadAmounts) (.ref Z.a_BadRule) = some false
  x_BadAmounts_BadAmount : PySem.W.exmOne K (.ref Z.a_BadAmounts) (.ref Z.a_BadAmount) = some false
  x_BadAmounts_BadAmounts : PySem.W.exmOne K (.ref Z.a_BadAmounts) (.ref Z.a_BadAmounts) = some true
  x_BadAmounts_BadPrices : PySem.W.exmOne K (.ref Z.a_BadAmounts) (.ref Z.a_BadPrices) = some false
  x_BadPrices_BadSorts : PySem.W.exmOne K (.ref Z.a_BadPrices) (.ref Z.a_BadSorts) = some false
  x_BadPrices_BadRule : PySem.W.exmOne K (.ref Z.a_BadPrices) (.ref Z.a_BadRule) = some false
  x_BadPrices_BadAmount : PySem.W.exmOne K (.ref Z.a_BadPrices) (.ref Z.a_BadAmount) = some false
  x_BadPrices_BadAmounts : PySem.W.exmOne K (.ref Z.a_BadPrices) (.ref Z.a_BadAmounts) = some false
  x_BadPrices_BadPrices : PySem.W.exmOne K (.ref Z.a_BadPrices) (.ref Z.a_BadPrices) = some true
  o_Program : mg "Program" = some (.ref Z.o_Program)
  o__law_dot : mg "_law_dot" = some (.ref Z.o__law_dot)
  F_is_list : ∃ fa fd, mg "is_list" = some (.ref fa) ∧ FunD K "is_list" "is_list" (defArgs (top 4)) (defBody (top 4)) (defScope (top 4)) [] [] fa fd
  F_is_whole : ∃ fa fd, mg "is_whole" = some (.ref fa) ∧ FunD K "is_whole" "is_whole" (defArgs (top 5)) (defBody (top 5)) (defScope (top 5)) [] [] fa fd
  F_is_natural : ∃ fa fd, mg "is_natural" = some (.ref fa) ∧ FunD K "is_natural" "is_natural" (defArgs (top 6)) (defBody (top 6)) (defScope (top 6)) [] [] fa fd
  F_is_counting : ∃ fa fd, mg "is_counting" = some (.ref fa) ∧ FunD K "is_counting" "is_counting" (defArgs (top 7)) (defBody (top 7)) (defScope (top 7)) [] [] fa fd
  F_as_tuples : ∃ fa fd, mg "as_tuples" = some (.ref fa) ∧ FunD K "as_tuples" "as_tuples" (defArgs (top 8)) (defBody (top 8)) (defScope (top 8)) [] [] fa fd
  F_is_amount : ∃ fa fd, mg "is_amount" = some (.ref fa) ∧ FunD K "is_amount" "is_amount" (defArgs (top 9)) (defBody (top 9)) (defScope (top 9)) [.non] [] fa fd
  F_are_prices : ∃ fa fd, mg "are_prices" = some (.ref fa) ∧ FunD K "are_prices" "are_prices" (defArgs (top 10)) (defBody (top 10)) (defScope (top 10)) [.non] [] fa fd
  F_is_at_most : ∃ fa fd, mg "is_at_most" = some (.ref fa) ∧ FunD K "is_at_most" "is_at_most" (defArgs (top 11)) (defBody (top 11)) (defScope (top 11)) [] [] fa fd
  F_dot : ∃ fa fd, mg "dot" = some (.ref fa) ∧ FunD K "dot" "dot" (defArgs (top 12)) (defBody (top 12)) (defScope (top 12)) [] [] fa fd
  F_checked_amounts : ∃ fa fd, mg "checked_amounts" = some (.ref fa) ∧ FunD K "checked_amounts" "checked_amounts" (defArgs (top 21)) (defBody (top 21)) (defScope (top 21)) [] [] fa fd
  F_least_of : ∃ fa fd, mg "least_of" = some (.ref fa) ∧ FunD K "least_of" "least_of" (defArgs (top 22)) (defBody (top 22)) (defScope (top 22)) [] [] fa fd
  F_least_rows : ∃ fa fd, mg "least_rows" = some (.ref fa) ∧ FunD K "least_rows" "least_rows" (defArgs (top 23)) (defBody (top 23)) (defScope (top 23)) [] [] fa fd
  F_cost : ∃ fa fd, mg "cost" = some (.ref fa) ∧ FunD K "cost" "cost" (defArgs (top 24)) (defBody (top 24)) (defScope (top 24)) [] [] fa fd
  F_are_sorts : ∃ fa fd, mg "are_sorts" = some (.ref fa) ∧ FunD K "are_sorts" "are_sorts" (defArgs (top 29)) (defBody (top 29)) (defScope (top 29)) [] [] fa fd
  F_check_rules : ∃ fa fd, mg "check_rules" = some (.ref fa) ∧ FunD K "check_rules" "check_rules" (defArgs (top 34)) (defBody (top 34)) (defScope (top 34)) [] [] fa fd
  F__law_source : ∃ fa fd, mg "_law_source" = some (.ref fa) ∧ FunD K "_law_source" "_law_source" (defArgs (top 37)) (defBody (top 37)) (defScope (top 37)) [] [] fa fd
  F__law_draw : ∃ fa fd, mg "_law_draw" = some (.ref fa) ∧ FunD K "_law_draw" "_law_draw" (defArgs (top 38)) (defBody (top 38)) (defScope (top 38)) [] [] fa fd
  F__law_pick : ∃ fa fd, mg "_law_pick" = some (.ref fa) ∧ FunD K "_law_pick" "_law_pick" (defArgs (top 39)) (defBody (top 39)) (defScope (top 39)) [] [] fa fd
  F__law_same : ∃ fa fd, mg "_law_same" = some (.ref fa) ∧ FunD K "_law_same" "_law_same" (defArgs (top 40)) (defBody (top 40)) (defScope (top 40)) [] [] fa fd
  F__law_number : ∃ fa fd, mg "_law_number" = some (.ref fa) ∧ FunD K "_law_number" "_law_number" (defArgs (top 41)) (defBody (top 41)) (defScope (top 41)) [] [] fa fd
  F__law_amount : ∃ fa fd, mg "_law_amount" = some (.ref fa) ∧ FunD K "_law_amount" "_law_amount" (defArgs (top 42)) (defBody (top 42)) (defScope (top 42)) [] [] fa fd
  F__law_amounts : ∃ fa fd, mg "_law_amounts" = some (.ref fa) ∧ FunD K "_law_amounts" "_law_amounts" (defArgs (top 43)) (defBody (top 43)) (defScope (top 43)) [] [] fa fd
  F__law_handed : ∃ fa fd, mg "_law_handed" = some (.ref fa) ∧ FunD K "_law_handed" "_law_handed" (defArgs (top 44)) (defBody (top 44)) (defScope (top 44)) [] [] fa fd
  F__law_dot : ∃ fa fd, mg "_law_dot" = some (.ref fa) ∧ FunD K "_law_dot" "_law_dot" (defArgs (top 45)) (defBody (top 45)) (defScope (top 45)) [] [] fa fd
  F__law_most : ∃ fa fd, mg "_law_most" = some (.ref fa) ∧ FunD K "_law_most" "_law_most" (defArgs (top 46)) (defBody (top 46)) (defScope (top 46)) [] [] fa fd
  F__law_least : ∃ fa fd, mg "_law_least" = some (.ref fa) ∧ FunD K "_law_least" "_law_least" (defArgs (top 47)) (defBody (top 47)) (defScope (top 47)) [] [] fa fd
  F__law_odd : ∃ fa fd, mg "_law_odd" = some (.ref fa) ∧ FunD K "_law_odd" "_law_odd" (defArgs (top 48)) (defBody (top 48)) (defScope (top 48)) [] [] fa fd
  F__law_told_rows : ∃ fa fd, mg "_law_told_rows" = some (.ref fa) ∧ FunD K "_law_told_rows" "_law_told_rows" (defArgs (top 49)) (defBody (top 49)) (defScope (top 49)) [] [] fa fd
  F__law_told_cost : ∃ fa fd, mg "_law_told_cost" = some (.ref fa) ∧ FunD K "_law_told_cost" "_law_told_cost" (defArgs (top 50)) (defBody (top 50)) (defScope (top 50)) [] [] fa fd
  F__law_prices : ∃ fa fd, mg "_law_prices" = some (.ref fa) ∧ FunD K "_law_prices" "_law_prices" (defArgs (top 51)) (defBody (top 51)) (defScope (top 51)) [] [] fa fd
  F__law_rows_right : ∃ fa fd, mg "_law_rows_right" = some (.ref fa) ∧ FunD K "_law_rows_right" "_law_rows_right" (defArgs (top 52)) (defBody (top 52)) (defScope (top 52)) [] [] fa fd
  F__law_costs_right : ∃ fa fd, mg "_law_costs_right" = some (.ref fa) ∧ FunD K "_law_costs_right" "_law_costs_right" (defArgs (top 53)) (defBody (top 53)) (defScope (top 53)) [] [] fa fd
  F_law : ∃ fa fd, mg "law" = some (.ref fa) ∧ FunD K "law" "law" (defArgs (top 54)) (defBody (top 54)) (defScope (top 54)) [] [] fa fd
  I_Program_init : ∃ fa fd, Mk K Z.o_Program fa ∧ FunD K "__init__" "Program.__init__" (defArgs (inCls 0 (top 35))) (defBody (inCls 0 (top 35))) (defScope (inCls 0 (top 35))) [] [] fa fd
  E_Program_eq : ∃ fa fd, PySem.W.findIn K (.ref Z.o_Program) "__eq__" = some (some (.ref fa)) ∧ PySem.W.isFn K (.ref fa) = true ∧ FunD K "__eq__" "Program.__eq__" (defArgs (inCls 7 (top 35))) (defBody (inCls 7 (top 35))) (defScope (inCls 7 (top 35))) [] [] fa fd
  f_Program : InsF K Z.o_Program
  n_Program_sorts : NoAttr K Z.o_Program "sorts"
  n_Program_rules : NoAttr K Z.o_Program "rules"
  n_Program_names : NoAttr K Z.o_Program "names"
  n_Program_kept : NoAttr K Z.o_Program "kept"
  k_Program_int : PySem.W.kitOne K (.ref Z.o_Program) (.type "int") = some false
  k_Program_bool : PySem.W.kitOne K (.ref Z.o_Program) (.type "bool") = some false
  k_Program_str : PySem.W.kitOne K (.ref Z.o_Program) (.type "str") = some false
  k_Program_list : PySem.W.kitOne K (.ref Z.o_Program) (.type "list") = some false
  k_Program_tuple : PySem.W.kitOne K (.ref Z.o_Program) (.type "tuple") = some false
  k_Program_dict : PySem.W.kitOne K (.ref Z.o_Program) (.type "dict") = some false
  k_Program_set : PySem.W.kitOne K (.ref Z.o_Program) (.type "set") = some false
  t__law_dot : isFnT K Z.o__law_dot = true
section
variable {P : Program} {w : World} {K : PySem.W.Frag} {mg : Str → Option Value} {base : Heap} {Z : Ads}
abbrev s_is_list : Stmt := top 4
theorem sc_is_list : FnScope ["thing"] ["thing"] (defScope s_is_list) := ⟨rfl, rfl, rfl, by decide +kernel, rfl, by decide +kernel, by decide +kernel⟩
noncomputable def g_is_list (K : PySem.W.Frag) (Z : Ads) : Gs := (sRet (gN (oIsiX K) (gCons (gVar 0) (gCons (gTup (gCons (gC (.ty "list")) (gCons (gC (.ty "tuple")) (gNil)))) (gNil)))))
noncomputable def f_is_list (K : PySem.W.Frag) (Z : Ads) : List T → Pr T := runB 1 (g_is_list K Z)
theorem b_is_list (X : Fx P w K mg base Z) (f : Addr) (cdv : Value) (A : Around) (outer : List PySem.Env) (s : Shared) (H : Hp) (E : XK) (hr : Room 0 (A.deeper (envOfC "is_list" (defScope s_is_list) s.heap.objs.size f cdv))) :
    GSs (cxOf (L2.CX P w) P w K mg base ["thing"] "is_list" (defScope s_is_list) f cdv A outer s H E) (fun c d _ H' => E c d H') (defBody s_is_list) (g_is_list K Z) :=
  gss_one (gs_ret (ge_callB call_isY k_isX X.m_isinstance rfl (gva_cons (gv_var 0) (gva_cons (GE.v (ge_tup (ga_cons (ge_c (ze_bltn (v := .ty "list") (t := .ty "list") (u := .type "list") X.m_list rfl rfl fun _ _ => rep_ty)) (ga_cons (ge_c (ze_bltn (v := .ty "tuple") (t := .ty "tuple") (u := .type "tuple") X.m_tuple rfl rfl fun _ _ => rep_ty)) (ga_nil))))) (gva_nil)))))
theorem pd_is_list (X : Fx P w K mg base Z) : PD P w K mg base "is_list" ["thing"] 1 [] (f_is_list K Z) :=
  let ⟨_, _, hm, F⟩ := X.F_is_list; PD.of F hm (fun_pure F sc_is_list (b_is_list X _)) (fun _ _ _ _ _ _ us hl => match us, hl with | [_], _ => rfl)
abbrev s_is_whole : Stmt := top 5
theorem sc_is_whole : FnScope ["thing"] ["thing"] (defScope s_is_whole) := ⟨rfl, rfl, rfl, by decide +kernel, rfl, by decide +kernel, by decide +kernel⟩
noncomputable def g_is_whole (K : PySem.W.Frag) (Z : Ads) : Gs := (sRet (gAndV (gN (oIsiX K) (gCons (gVar 0) (gCons (gC (.ty "int")) (gNil)))) (gNotV (gN (oIsiX K) (gCons (gVar 0) (gCons (gC (.ty "bool")) (gNil)))))))
noncomputable def f_is_whole (K : PySem.W.Frag) (Z : Ads) : List T → Pr T := runB 1 (g_is_whole K Z)
theorem b_is_whole (X : Fx P w K mg base Z) (f : Addr) (cdv : Value) (A : Around) (outer : List PySem.Env) (s : Shared) (H : Hp) (E : XK) (hr : Room 0 (A.deeper (envOfC "is_whole" (defScope s_is_whole) s.heap.objs.size f cdv))) :
    GSs (cxOf (L2.CX P w) P w K mg base ["thing"] "is_whole" (defScope s_is_whole) f cdv A outer s H E) (fun c d _ H' => E c d H') (defBody s_is_whole) (g_is_whole K Z) :=
  gss_one (gs_ret (ge_and (ge_callB call_isY k_isX X.m_isinstance rfl (gva_cons (gv_var 0) (gva_cons (GE.v (ge_c (ze_bltn (v := .ty "int") (t := .ty "int") (u := .type "int") X.m_int rfl rfl fun _ _ => rep_ty))) (gva_nil)))) (ge_one (ge_not (GE.v (ge_callB call_isY k_isX X.m_isinstance rfl (gva_cons (gv_var 0) (gva_cons (GE.v (ge_c (ze_bltn (v := .ty "bool") (t := .ty "bool") (u := .type "bool") X.m_bool rfl rfl fun _ _ => rep_ty))) (gva_nil)))))))))
theorem pd_is_whole (X : Fx P w K mg base Z) : PD P w K mg base "is_whole" ["thing"] 1 [] (f_is_whole K Z) :=
  let ⟨_, _, hm, F⟩ := X.F_is_whole; PD.of F hm (fun_pure F sc_is_whole (b_is_whole X _)) (fun _ _ _ _ _ _ us hl => match us, hl with | [_], _ => rfl)
abbrev s_is_natural : Stmt := top 6
theorem sc_is_natural : FnScope ["thing"] ["thing"] (defScope s_is_natural) := ⟨rfl, rfl, rfl, by decide +kernel, rfl, by decide +kernel, by decide +kernel⟩
noncomputable def g_is_natural (K : PySem.W.Frag) (Z : Ads) : Gs := (sRet (gAndV (gCall (f_is_whole K Z) [] (gCons (gVarT 0) (gNil))) (g2 oGe (gVar 0) (gC (.int 0)))))
noncomputable def f_is_natural (K : PySem.W.Frag) (Z : Ads) : List T → Pr T := runB 1 (g_is_natural K Z)
theorem b_is_natural (X : Fx P w K mg base Z) (f : Addr) (cdv : Value) (A : Around) (outer : List PySem.Env) (s : Shared) (H : Hp) (E : XK) (hr : Room 1 (A.deeper (envOfC "is_natural" (defScope s_is_natural) s.heap.objs.size f cdv))) :
    GSs (cxOf (L2.CX P w) P w K mg base ["thing"] "is_natural" (defScope s_is_natural) f cdv A outer s H E) (fun c d _ H' => E c d H') (defBody s_is_natural) (g_is_natural K Z) :=
  gss_one (gs_ret (ge_and (ge_pd (pd_is_whole X) hr (by decide) (takes_of rfl rfl rfl rfl) (glen_cons glen_nil) (ga_cons (ge_var 0) (ga_nil))) (ge_one (ge_cmp op_ge k_ge (gv_var 0) (GE.v (ge_c ze_int))))))
theorem pd_is_natural (X : Fx P w K mg base Z) : PD P w K mg base "is_natural" ["thing"] 2 [] (f_is_natural K Z) :=
  let ⟨_, _, hm, F⟩ := X.F_is_natural; PD.of F hm (fun_pure F sc_is_natural (b_is_natural X _)) (fun _ _ _ _ _ _ us hl => match us, hl with | [_], _ => rfl)
abbrev s_is_counting : Stmt := top 7
theorem sc_is_counting : FnScope ["thing"] ["thing"] (defScope s_is_counting) := ⟨rfl, rfl, rfl, by decide +kernel, rfl, by decide +kernel, by decide +kernel⟩
noncomputable def g_is_counting (K : PySem.W.Frag) (Z : Ads) : Gs := (sRet (gAndV (gCall (f_is_whole K Z) [] (gCons (gVarT 0) (gNil))) (g2 oGe (gVar 0) (gC (.int 1)))))
noncomputable def f_is_counting (K : PySem.W.Frag) (Z : Ads) : List T → Pr T := runB 1 (g_is_counting K Z)
theorem b_is_counting (X : Fx P w K mg base Z) (f : Addr) (cdv : Value) (A : Around) (outer : List PySem.Env) (s : Shared) (H : Hp) (E : XK) (hr : Room 1 (A.deeper (envOfC "is_counting" (defScope s_is_counting) s.heap.objs.size f cdv))) :
    GSs (cxOf (L2.CX P w) P w K mg base ["thing"] "is_counting" (defScope s_is_counting) f cdv A outer s H E) (fun c d _ H' => E c d H') (defBody s_is_counting) (g_is_counting K Z) :=
  gss_one (gs_ret (ge_and (ge_pd (pd_is_whole X) hr (by decide) (takes_of rfl rfl rfl rfl) (glen_cons glen_nil) (ga_cons (ge_var 0) (ga_nil))) (ge_one (ge_cmp op_ge k_ge (gv_var 0) (GE.v (ge_c ze_int))))))
theorem pd_is_counting (X : Fx P w K mg base Z) : PD P w K mg base "is_counting" ["thing"] 2 [] (f_is_counting K Z) :=
  let ⟨_, _, hm, F⟩ := X.F_is_counting; PD.of F hm (fun_pure F sc_is_counting (b_is_counting X _)) (fun _ _ _ _ _ _ us hl => match us, hl with | [_], _ => rfl)
abbrev s_as_tuples : Stmt := top 8
theorem sc_as_tuples : FnScope ["thing", "part"] ["thing"] (defScope s_as_tuples) := ⟨rfl, rfl, rfl, by decide +kernel, rfl, by decide +kernel, by decide +kernel⟩
noncomputable def g_as_tuples (K : PySem.W.Frag) (Z : Ads) (fs : List T → Pr T) : Gs := (sRet (gIf (gTru (gCall (f_is_list K Z) [] (gCons (gVarT 0) (gNil)))) (gN oTuple (gCons (gLc (giSeq (gVar 0)) (tgName 1) (gYes) (gCall fs [] (gCons (gVarT 1) (gNil))) [1]) (gNil))) (gVarT 0)))
noncomputable def f_as_tuples (K : PySem.W.Frag) (Z : Ads) : Nat → List T → Pr T
  | 0 => fun _ => .bad
  | n + 1 => runB 2 (g_as_tuples K Z (f_as_tuples K Z n))
theorem b_as_tuples (X : Fx P w K mg base Z) {fs : List T → Pr T} {L : Nat} (hL : 1 ≤ L) (p_self : PD P w K mg base "as_tuples" ["thing"] L [] fs) (f : Addr) (cdv : Value) (A : Around) (outer : List PySem.Env) (s : Shared) (H : Hp) (E : XK) (hr : Room L (A.deeper (envOfC "as_tuples" (defScope s_as_tuples) s.heap.objs.size f cdv))) :
    GSs (cxOf (L2.CX P w) P w K mg base ["thing", "part"] "as_tuples" (defScope s_as_tuples) f cdv A outer s H E) (fun c d _ H' => E c d H') (defBody s_as_tuples) (g_as_tuples K Z fs) :=
  gss_one (gs_ret (ge_ifExp (gt_tru (GE.v (ge_pd (pd_is_list X) hr (Nat.le_trans (by decide) hL) (takes_of rfl rfl rfl rfl) (glen_cons glen_nil) (ga_cons (ge_var 0) (ga_nil))))) (ge_callTy call_tuple_of k_tuple X.m_tuple rfl (gva_cons (GE.v (ge_lc (own := [("part", 1)]) rfl sc_as_tuples.nd (blk_of (by kernel_rfl)) (gi_seq (gv_var 0)) (fun _ _ _ _ _ => gc_name 1 sc_as_tuples.nd) (fun _ _ _ _ _ => gts_nil) (fun _ _ _ _ _ => ge_pd p_self hr (Nat.le_refl _) takes_none5 (glen_cons glen_nil) (ga_cons (ge_var 1) (ga_nil))))) (gva_nil))) (ge_var 0)))
theorem pr_as_tuples (X : Fx P w K mg base Z) : ∀ n, PD P w K mg base "as_tuples" ["thing"] (1 + n) [] (f_as_tuples K Z n)
  | 0 => let ⟨_, _, hm, F⟩ := X.F_as_tuples; PD.zero F hm (fun _ _ _ _ _ _ us hl => match us, hl with | [_], _ => rfl)
  | n + 1 => let ⟨_, _, hm, F⟩ := X.F_as_tuples; PD.of F hm (fun_pure F sc_as_tuples (b_as_tuples X (Nat.le_add_right _ _) (pr_as_tuples X n) _)) (fun _ _ _ _ _ _ us hl => match us, hl with | [_], _ => rfl)
theorem pd_as_tuples (X : Fx P w K mg base Z) : PD P w K mg base "as_tuples" ["thing"] 9 [] (f_as_tuples K Z 8) := pr_as_tuples X 8
abbrev s_is_amount : Stmt := top 9
theorem sc_is_amount : FnScope ["thing", "many", "number"] ["thing", "many"] (defScope s_is_amount) := ⟨rfl, rfl, rfl, by decide +kernel, rfl, by decide +kernel, by decide +kernel⟩
noncomputable def g_is_amount (K : PySem.W.Frag) (Z : Ads) : Gs := (sSeq (sIf (gOrT (gNotT (gTru (gCall (f_is_list K Z) [] (gCons (gVarT 0) (gNil))))) (gOrT (gBl (g2 oNotIn (gN oLen (gCons (gVar 0) (gNil))) (gTup (gCons (gC (.int 1)) (gCons (gC (.int 2)) (gCons (gC (.int 3)) (gNil))))))) (gAndT (gBl (g2 oNotN (gVar 1) (gC (.non)))) (gBl (g2 oNe (gN oLen (gCons (gVar 0) (gNil))) (gVar 1)))))) ((sRet (gC (.bl false)))) (sNext)) (sRet (gN oAll (gCons (gLc (giSeq (gVar 0)) (tgName 2) (gYes) (gCall (f_is_natural K Z) [] (gCons (gVarT 2) (gNil))) [2]) (gNil)))))
noncomputable def f_is_amount (K : PySem.W.Frag) (Z : Ads) : List T → Pr T := runB 3 (g_is_amount K Z)
theorem b_is_amount (X : Fx P w K mg base Z) (f : Addr) (cdv : Value) (A : Around) (outer : List PySem.Env) (s : Shared) (H : Hp) (E : XK) (hr : Room 2 (A.deeper (envOfC "is_amount" (defScope s_is_amount) s.heap.objs.size f cdv))) :
    GSs (cxOf (L2.CX P w) P w K mg base ["thing", "many", "number"] "is_amount" (defScope s_is_amount) f cdv A outer s H E) (fun c d _ H' => E c d H') (defBody s_is_amount) (g_is_amount K Z) :=
  gss_cons (gs_if (GW.t (gw_or (gt_not (gt_tru (GE.v (ge_pd (pd_is_list X) hr (by decide) (takes_of rfl rfl rfl rfl) (glen_cons glen_nil) (ga_cons (ge_var 0) (ga_nil)))))) (gw_or (gt_cmp (op_notInA (hu65 hr)) k_notIn (GE.v (ge_callB call_len k_len X.m_len rfl (gva_cons (gv_var 0) (gva_nil)))) (GE.v (ge_tup (ga_cons (ge_c ze_int) (ga_cons (ge_c ze_int) (ga_cons (ge_c ze_int) (ga_nil))))))) (gw_or1 (GW.t (gw_and (gt_cmp op_notN k_notN (gv_var 1) (GE.v (ge_c ze_non))) (gw_and1 (gt_cmp (op_neD (hu64 hr)) k_ne (GE.v (ge_callB call_len k_len X.m_len rfl (gva_cons (gv_var 0) (gva_nil)))) (gv_var 1))))))))) (gss_one (gs_ret (ge_c ze_bl))) (gss_nil)) (gss_one (gs_ret (ge_callB (cr_all rfl) k_all X.m_all rfl (gva_cons (GE.v (ge_lc (own := [("number", 2)]) rfl sc_is_amount.nd (blk_of (by kernel_rfl)) (gi_seq (gv_var 0)) (fun _ _ _ _ _ => gc_name 2 sc_is_amount.nd) (fun _ _ _ _ _ => gts_nil) (fun _ _ _ _ _ => ge_pd (pd_is_natural X) hr (by decide) takes_none5 (glen_cons glen_nil) (ga_cons (ge_var 2) (ga_nil))))) (gva_nil)))))
theorem pd_is_amount (X : Fx P w K mg base Z) : PD P w K mg base "is_amount" ["thing", "many"] 3 [] (f_is_amount K Z) :=
  let ⟨_, _, hm, F⟩ := X.F_is_amount; PD.dfl F hm (fun_pure F sc_is_amount (b_is_amount X _)) 2 1 (by simp) rfl (fun _ _ _ _ _ _ _ us its h1 h2 => match us, its, h1, h2 with | [_, _], [_], _, _ => ⟨_, rfl, rfl⟩) fun _ _ => .nil
theorem pd_is_amount_1 (X : Fx P w K mg base Z) : PD P w K mg base "is_amount" ["thing", "many"] 3 [.non] (f_is_amount K Z) :=
  let ⟨_, _, hm, F⟩ := X.F_is_amount; PD.dfl F hm (fun_pure F sc_is_amount (b_is_amount X _)) 1 0 (by simp) rfl (fun _ _ _ _ _ _ _ us its h1 h2 => match us, its, h1, h2 with | [_], [_], _, _ => ⟨_, rfl, rfl⟩) fun _ _ => .cons rep_non (.nil)
abbrev s_are_prices : Stmt := top 10
theorem sc_are_prices : FnScope ["thing", "many", "number"] ["thing", "many"] (defScope s_are_prices) := ⟨rfl, rfl, rfl, by decide +kernel, rfl, by decide +kernel, by decide +kernel⟩
noncomputable def g_are_prices (K : PySem.W.Frag) (Z : Ads) : Gs := (sRet (gAndV (gCall (f_is_amount K Z) [] (gCons (gVarT 0) (gCons (gVarT 1) (gNil)))) (gN oAny (gCons (gLc (giSeq (gVar 0)) (tgName 2) (gYes) (g2 oGt (gVar 2) (gC (.int 0))) [2]) (gNil)))))
noncomputable def f_are_prices (K : PySem.W.Frag) (Z : Ads) : List T → Pr T := runB 3 (g_are_prices K Z)
theorem b_are_prices (X : Fx P w K mg base Z) (f : Addr) (cdv : Value) (A : Around) (outer : List PySem.Env) (s : Shared) (H : Hp) (E : XK) (hr : Room 3 (A.deeper (envOfC "are_prices" (defScope s_are_prices) s.heap.objs.size f cdv))) :
    GSs (cxOf (L2.CX P w) P w K mg base ["thing", "many", "number"] "are_prices" (defScope s_are_prices) f cdv A outer s H E) (fun c d _ H' => E c d H') (defBody s_are_prices) (g_are_prices K Z) :=
  gss_one (gs_ret (ge_and (ge_pd (pd_is_amount X) hr (by decide) (takes_of rfl rfl rfl rfl) (glen_cons (glen_cons glen_nil)) (ga_cons (ge_var 0) (ga_cons (ge_var 1) (ga_nil)))) (ge_one (ge_callB (cr_any rfl) k_any X.m_any rfl (gva_cons (GE.v (ge_lc (own := [("number", 2)]) rfl sc_are_prices.nd (blk_of (by kernel_rfl)) (gi_seq (gv_var 0)) (fun _ _ _ _ _ => gc_name 2 sc_are_prices.nd) (fun _ _ _ _ _ => gts_nil) (fun _ _ _ _ _ => ge_cmp op_gt k_gt (gv_var 2) (GE.v (ge_c ze_int))))) (gva_nil))))))
theorem pd_are_prices (X : Fx P w K mg base Z) : PD P w K mg base "are_prices" ["thing", "many"] 4 [] (f_are_prices K Z) :=
  let ⟨_, _, hm, F⟩ := X.F_are_prices; PD.dfl F hm (fun_pure F sc_are_prices (b_are_prices X _)) 2 1 (by simp) rfl (fun _ _ _ _ _ _ _ us its h1 h2 => match us, its, h1, h2 with | [_, _], [_], _, _ => ⟨_, rfl, rfl⟩) fun _ _ => .nil
theorem pd_are_prices_1 (X : Fx P w K mg base Z) : PD P w K mg base "are_prices" ["thing", "many"] 4 [.non] (f_are_prices K Z) :=
  let ⟨_, _, hm, F⟩ := X.F_are_prices; PD.dfl F hm (fun_pure F sc_are_prices (b_are_prices X _)) 1 0 (by simp) rfl (fun _ _ _ _ _ _ _ us its h1 h2 => match us, its, h1, h2 with | [_], [_], _, _ => ⟨_, rfl, rfl⟩) fun _ _ => .cons rep_non (.nil)
abbrev s_is_at_most : Stmt := top 11
theorem sc_is_at_most : FnScope ["one", "other", "mine", "theirs"] ["one", "other"] (defScope s_is_at_most) := ⟨rfl, rfl, rfl, by decide +kernel, rfl, by decide +kernel, by decide +kernel⟩
noncomputable def g_is_at_most (K : PySem.W.Frag) (Z : Ads) : Gs := (sRet (gN oAll (gCons (gLc (giO zpOp (gCons (gVarT 0) (gCons (gVarT 1) (gNil)))) (tgTup 2 (tgCons (tgName 2) (tgCons (tgName 3) (tgNil)))) (gYes) (g2 oLe (gVar 2) (gVar 3)) [2, 3]) (gNil))))
noncomputable def f_is_at_most (K : PySem.W.Frag) (Z : Ads) : List T → Pr T := runB 4 (g_is_at_most K Z)
theorem b_is_at_most (X : Fx P w K mg base Z) (f : Addr) (cdv : Value) (A : Around) (outer : List PySem.Env) (s : Shared) (H : Hp) (E : XK) (hr : Room 0 (A.deeper (envOfC "is_at_most" (defScope s_is_at_most) s.heap.objs.size f cdv))) :
    GSs (cxOf (L2.CX P w) P w K mg base ["one", "other", "mine", "theirs"] "is_at_most" (defScope s_is_at_most) f cdv A outer s H E) (fun c d _ H' => E c d H') (defBody s_is_at_most) (g_is_at_most K Z) :=
  gss_one (gs_ret (ge_callB (cr_all rfl) k_all X.m_all rfl (gva_cons (GE.v (ge_lc (own := [("mine", 2), ("theirs", 3)]) rfl sc_is_at_most.nd (blk_of (by kernel_rfl)) (gi_zp X.m_zip (ga_cons (ge_var 0) (ga_cons (ge_var 1) (ga_nil)))) (fun _ _ _ _ _ => gc_tup rfl (gcs_cons (gc_name 2 sc_is_at_most.nd) (gcs_cons (gc_name 3 sc_is_at_most.nd) (gcs_nil)))) (fun _ _ _ _ _ => gts_nil) (fun _ _ _ _ _ => ge_cmp op_le k_le (gv_var 2) (gv_var 3)))) (gva_nil))))
theorem pd_is_at_most (X : Fx P w K mg base Z) : PD P w K mg base "is_at_most" ["one", "other"] 1 [] (f_is_at_most K Z) :=
  let ⟨_, _, hm, F⟩ := X.F_is_at_most; PD.of F hm (fun_pure F sc_is_at_most (b_is_at_most X _)) (fun _ _ _ _ _ _ us hl => match us, hl with | [_, _], _ => rfl)
abbrev s_dot : Stmt := top 12
theorem sc_dot : FnScope ["one", "other", "mine", "theirs"] ["one", "other"] (defScope s_dot) := ⟨rfl, rfl, rfl, by decide +kernel, rfl, by decide +kernel, by decide +kernel⟩
noncomputable def g_dot (K : PySem.W.Frag) (Z : Ads) : Gs := (sRet (gN oSum (gCons (gLc (giO zpOp (gCons (gVarT 0) (gCons (gVarT 1) (gNil)))) (tgTup 2 (tgCons (tgName 2) (tgCons (tgName 3) (tgNil)))) (gYes) (g2 oTimesX (gVar 2) (gVar 3)) [2, 3]) (gNil))))
noncomputable def f_dot (K : PySem.W.Frag) (Z : Ads) : List T → Pr T := runB 4 (g_dot K Z)
theorem b_dot (X : Fx P w K mg base Z) (f : Addr) (cdv : Value) (A : Around) (outer : List PySem.Env) (s : Shared) (H : Hp) (E : XK) (hr : Room 0 (A.deeper (envOfC "dot" (defScope s_dot) s.heap.objs.size f cdv))) :
    GSs (cxOf (L2.CX P w) P w K mg base ["one", "other", "mine", "theirs"] "dot" (defScope s_dot) f cdv A outer s H E) (fun c d _ H' => E c d H') (defBody s_dot) (g_dot K Z) :=
  gss_one (gs_ret (ge_callB (cr_sum rfl) k_sum X.m_sum rfl (gva_cons (GE.v (ge_lc (own := [("mine", 2), ("theirs", 3)]) rfl sc_dot.nd (blk_of (by kernel_rfl)) (gi_zp X.m_zip (ga_cons (ge_var 0) (ga_cons (ge_var 1) (ga_nil)))) (fun _ _ _ _ _ => gc_tup rfl (gcs_cons (gc_name 2 sc_dot.nd) (gcs_cons (gc_name 3 sc_dot.nd) (gcs_nil)))) (fun _ _ _ _ _ => gts_nil) (fun _ _ _ _ _ => ge_op op_timesX k_timesX (gv_var 2) (gv_var 3)))) (gva_nil))))
theorem pd_dot (X : Fx P w K mg base Z) : PD P w K mg base "dot" ["one", "other"] 1 [] (f_dot K Z) :=
  let ⟨_, _, hm, F⟩ := X.F_dot; PD.of F hm (fun_pure F sc_dot (b_dot X _)) (fun _ _ _ _ _ _ us hl => match us, hl with | [_, _], _ => rfl)
abbrev s_checked_amounts : Stmt := top 21
theorem sc_checked_amounts : FnScope ["amounts", "many", "index", "amount"] ["amounts"] (defScope s_checked_amounts) := ⟨rfl, rfl, rfl, by decide +kernel, rfl, by decide +kernel, by decide +kernel⟩
noncomputable def g_checked_amounts (K : PySem.W.Frag) (Z : Ads) : Gs := (sSeq (sIf (gNotT (gTru (gCall (f_is_list K Z) [] (gCons (gVarT 0) (gNil))))) ((sRaise Z.a_BadAmounts eBadAmounts.f (gC (.int 0)))) (sNext)) (sSeq (sAsg (gIf (gAndT (gBl (g2 oGt (gN oLen (gCons (gVar 0) (gNil))) (gC (.int 0)))) (gTru (gCall (f_is_amount K Z) [.non] (gCons (g2 oIx (gVar 0) (gC (.int 0))) (gNil))))) (gN oLen (gCons (g2 oIx (gVar 0) (gC (.int 0))) (gNil))) (gC (.non))) (tgName 1)) (sSeq (sFor (giO enOp (gCons (gVarT 0) (gNil))) (tgTup 2 (tgCons (tgName 2) (tgCons (tgName 3) (tgNil)))) ((sIf (gNotT (gTru (gCall (f_is_amount K Z) [] (gCons (gVarT 3) (gCons (gVarT 1) (gNil)))))) ((sRaise Z.a_BadAmounts eBadAmounts.f (gVarT 2))) (sNext)))) (sRet (gLc (giSeq (gVar 0)) (tgName 3) (gYes) (gN oTuple (gCons (gVar 3) (gNil))) [3])))))
noncomputable def f_checked_amounts (K : PySem.W.Frag) (Z : Ads) : List T → Pr T := runB 4 (g_checked_amounts K Z)
theorem b_checked_amounts (X : Fx P w K mg base Z) (f : Addr) (cdv : Value) (A : Around) (outer : List PySem.Env) (s : Shared) (H : Hp) (E : XK) (hr : Room 3 (A.deeper (envOfC "checked_amounts" (defScope s_checked_amounts) s.heap.objs.size f cdv))) :
    GSs (cxOf (L2.CX P w) P w K mg base ["amounts", "many", "index", "amount"] "checked_amounts" (defScope s_checked_amounts) f cdv A outer s H E) (fun c d _ H' => E c d H') (defBody s_checked_amounts) (g_checked_amounts K Z) :=
  gss_cons (gs_if (gt_not (gt_tru (GE.v (ge_pd (pd_is_list X) hr (by decide) (takes_of rfl rfl rfl rfl) (glen_cons glen_nil) (ga_cons (ge_var 0) (ga_nil)))))) (gss_one (gs_raise rfl X.q_BadAmounts hr (takes_of rfl rfl rfl rfl) (ge_c ze_int))) (gss_nil)) (gss_cons (gs_set 1 sc_checked_amounts.nd (ge_ifExp (GW.t (gw_and (gt_cmp op_gt k_gt (GE.v (ge_callB call_len k_len X.m_len rfl (gva_cons (gv_var 0) (gva_nil)))) (GE.v (ge_c ze_int))) (gw_and1 (gt_tru (GE.v (ge_pd (pd_is_amount_1 X) hr (by decide) (takes_of rfl rfl rfl rfl) (glen_cons glen_nil) (ga_cons (ge_ix ix_lt k_ix (gv_var 0) (GE.v (ge_c ze_int))) (ga_nil)))))))) (ge_callB call_len k_len X.m_len rfl (gva_cons (GE.v (ge_ix ix_lt k_ix (gv_var 0) (GE.v (ge_c ze_int)))) (gva_nil))) (ge_c ze_non))) (gss_cons (gs_for PassesOwn.leaving rfl (gi_en X.m_enumerate (ga_cons (ge_var 0) (ga_nil))) (gg_tup rfl (ggs_cons (gg_name 2 sc_checked_amounts.nd) (ggs_cons (gg_name 3 sc_checked_amounts.nd) (ggs_nil)))) (gss_one (gs_if (gt_not (gt_tru (GE.v (ge_pd (pd_is_amount X) hr (by decide) (takes_of rfl rfl rfl rfl) (glen_cons (glen_cons glen_nil)) (ga_cons (ge_var 3) (ga_cons (ge_var 1) (ga_nil))))))) (gss_one (gs_raise rfl X.q_BadAmounts hr (takes_of rfl rfl rfl rfl) (ge_var 2))) (gss_nil)))) (gss_one (gs_ret (ge_lc (own := [("amount", 3)]) rfl sc_checked_amounts.nd (blk_of (by kernel_rfl)) (gi_seq (gv_var 0)) (fun _ _ _ _ _ => gc_name 3 sc_checked_amounts.nd) (fun _ _ _ _ _ => gts_nil) (fun _ _ _ _ _ => ge_callTy call_tuple_of k_tuple X.m_tuple rfl (gva_cons (gv_var 3) (gva_nil))))))))
theorem pd_checked_amounts (X : Fx P w K mg base Z) : PD P w K mg base "checked_amounts" ["amounts"] 4 [] (f_checked_amounts K Z) :=
  let ⟨_, _, hm, F⟩ := X.F_checked_amounts; PD.of F hm (fun_pure F sc_checked_amounts (b_checked_amounts X _)) (fun _ _ _ _ _ _ us hl => match us, hl with | [_], _ => rfl)
abbrev s_least_of : Stmt := top 22
theorem sc_least_of : FnScope ["rows", "found", "row", "one"] ["rows"] (defScope s_least_of) := ⟨rfl, rfl, rfl, by decide +kernel, rfl, by decide +kernel, by decide +kernel⟩
noncomputable def g_least_of (K : PySem.W.Frag) (Z : Ads) : Ms := (msSeq (msAsg (mLstR (mNil)) (mgName 1)) (msSeq (msFor (miSeq (mN oSorted (mCons (mVar 0) (mNil)))) (mgName 2) ((msIf (mNotT (mTru (mN oAny (mCons (mLc (miSeq (mVar 1)) (mgName 3) (mYes) (mCallP (f_is_at_most K Z) [] 2 (mCons (mVar 3) (mCons (mVar 2) (mNil)))) [3]) (mNil))))) ((msDrop (mApp (mVar 1) (mVar 2)))) (msNext)))) (msRet (mVar 1))))
noncomputable def f_least_of (K : PySem.W.Frag) (Z : Ads) : Fm := runM 4 (g_least_of K Z)
theorem b_least_of (X : Fx P w K mg base Z) (f : Addr) (cdv : Value) (A : Around) (outer : List PySem.Env) (s : Shared) (H : Hp) (E : XK) (hr : Room 1 (A.deeper (envOfC "least_of" (defScope s_least_of) s.heap.objs.size f cdv))) :
    MSs (cxOf (L2.CX P w) P w K mg base ["rows", "found", "row", "one"] "least_of" (defScope s_least_of) f cdv A outer s H E) (fun c d _ H' => E c d H') (defBody s_least_of) (g_least_of K Z) :=
  mss_cons (ms_set 1 sc_least_of.nd (me_lstR (ma_nil))) (mss_cons (ms_for PassesOwn.leaving rfl (mi_seq (me_callB cr_sortA k_sorted X.m_sorted rfl (ma_cons (me_var 0) (ma_nil)))) (mg_name 2 sc_least_of.nd) (mss_one (ms_if (mt_not (mt_tru (me_callB (cr_any rfl) k_any X.m_any rfl (ma_cons (me_lc (own := [("one", 3)]) rfl sc_least_of.nd (blk_of (by kernel_rfl)) (mi_seq (me_var 1)) (fun _ _ _ _ _ => mc_name 3 sc_least_of.nd) (fun _ _ _ _ _ => mts_nil) (fun _ _ _ _ _ => me_pd (pd_is_at_most X) hr (by decide) takes_none5 (ma_cons (me_var 3) (ma_cons (me_var 2) (ma_nil))))) (ma_nil))))) (mss_one (ms_expr (me_append (me_var 1) (me_var 2)))) (mss_nil)))) (mss_one (ms_ret (me_var 1))))
theorem md_least_of (X : Fx P w K mg base Z) : MD P w K mg base "least_of" ["rows"] 2 [] (f_least_of K Z) :=
  let ⟨_, _, hm, F⟩ := X.F_least_of; MD.of F hm (fun_m F sc_least_of (b_least_of X _)) (fun _ _ _ _ _ _ us hl => match us, hl with | [_], _ => rfl)
abbrev s_least_rows : Stmt := top 23
theorem sc_least_rows : FnScope ["amounts"] ["amounts"] (defScope s_least_rows) := ⟨rfl, rfl, rfl, by decide +kernel, rfl, by decide +kernel, by decide +kernel⟩
noncomputable def g_least_rows (K : PySem.W.Frag) (Z : Ads) : Ms := (msRet (mCall (f_least_of K Z) [] 1 (mCons (mCallP (f_checked_amounts K Z) [] 1 (mCons (mVar 0) (mNil))) (mNil))))
noncomputable def f_least_rows (K : PySem.W.Frag) (Z : Ads) : Fm := runM 1 (g_least_rows K Z)
theorem b_least_rows (X : Fx P w K mg base Z) (f : Addr) (cdv : Value) (A : Around) (outer : List PySem.Env) (s : Shared) (H : Hp) (E : XK) (hr : Room 4 (A.deeper (envOfC "least_rows" (defScope s_least_rows) s.heap.objs.size f cdv))) :
    MSs (cxOf (L2.CX P w) P w K mg base ["amounts"] "least_rows" (defScope s_least_rows) f cdv A outer s H E) (fun c d _ H' => E c d H') (defBody s_least_rows) (g_least_rows K Z) :=
  mss_one (ms_ret (me_md (md_least_of X) hr (by decide) (takes_of rfl rfl rfl rfl) (ma_cons (me_pd (pd_checked_amounts X) hr (by decide) (takes_of rfl rfl rfl rfl) (ma_cons (me_var 0) (ma_nil))) (ma_nil))))
theorem md_least_rows (X : Fx P w K mg base Z) : MD P w K mg base "least_rows" ["amounts"] 5 [] (f_least_rows K Z) :=
  let ⟨_, _, hm, F⟩ := X.F_least_rows; MD.of F hm (fun_m F sc_least_rows (b_least_rows X _)) (fun _ _ _ _ _ _ us hl => match us, hl with | [_], _ => rfl)
abbrev s_cost : Stmt := top 24
theorem sc_cost : FnScope ["amount", "prices"] ["amount", "prices"] (defScope s_cost) := ⟨rfl, rfl, rfl, by decide +kernel, rfl, by decide +kernel, by decide +kernel⟩
noncomputable def g_cost (K : PySem.W.Frag) (Z : Ads) : Gs := (sSeq (sIf (gNotT (gTru (gCall (f_is_amount K Z) [.non] (gCons (gVarT 0) (gNil))))) ((sRaise Z.a_BadAmount eBadAmount.f (gVarT 0))) (sNext)) (sSeq (sIf (gNotT (gTru (gCall (f_are_prices K Z) [] (gCons (gVarT 1) (gCons (gN oLen (gCons (gVar 0) (gNil))) (gNil)))))) ((sRaise Z.a_BadPrices eBadPrices.f (gVarT 1))) (sNext)) (sRet (gCall (f_dot K Z) [] (gCons (gVarT 0) (gCons (gVarT 1) (gNil)))))))
noncomputable def f_cost (K : PySem.W.Frag) (Z : Ads) : List T → Pr T := runB 2 (g_cost K Z)
theorem b_cost (X : Fx P w K mg base Z) (f : Addr) (cdv : Value) (A : Around) (outer : List PySem.Env) (s : Shared) (H : Hp) (E : XK) (hr : Room 4 (A.deeper (envOfC "cost" (defScope s_cost) s.heap.objs.size f cdv))) :
    GSs (cxOf (L2.CX P w) P w K mg base ["amount", "prices"] "cost" (defScope s_cost) f cdv A outer s H E) (fun c d _ H' => E c d H') (defBody s_cost) (g_cost K Z) :=
  gss_cons (gs_if (gt_not (gt_tru (GE.v (ge_pd (pd_is_amount_1 X) hr (by decide) (takes_of rfl rfl rfl rfl) (glen_cons glen_nil) (ga_cons (ge_var 0) (ga_nil)))))) (gss_one (gs_raise rfl X.q_BadAmount hr (takes_of rfl rfl rfl rfl) (ge_var 0))) (gss_nil)) (gss_cons (gs_if (gt_not (gt_tru (GE.v (ge_pd (pd_are_prices X) hr (by decide) (takes_of rfl rfl rfl rfl) (glen_cons (glen_cons glen_nil)) (ga_cons (ge_var 1) (ga_cons (ge_callB call_len k_len X.m_len rfl (gva_cons (gv_var 0) (gva_nil))) (ga_nil))))))) (gss_one (gs_raise rfl X.q_BadPrices hr (takes_of rfl rfl rfl rfl) (ge_var 1))) (gss_nil)) (gss_one (gs_ret (ge_pd (pd_dot X) hr (by decide) (takes_of rfl rfl rfl rfl) (glen_cons (glen_cons glen_nil)) (ga_cons (ge_var 0) (ga_cons (ge_var 1) (ga_nil)))))))
theorem pd_cost (X : Fx P w K mg base Z) : PD P w K mg base "cost" ["amount", "prices"] 5 [] (f_cost K Z) :=
  let ⟨_, _, hm, F⟩ := X.F_cost; PD.of F hm (fun_pure F sc_cost (b_cost X _)) (fun _ _ _ _ _ _ us hl => match us, hl with | [_, _], _ => rfl)
abbrev s_are_sorts : Stmt := top 29
theorem sc_are_sorts : FnScope ["thing", "sort"] ["thing"] (defScope s_are_sorts) := ⟨rfl, rfl, rfl, by decide +kernel, rfl, by decide +kernel, by decide +kernel⟩
noncomputable def g_are_sorts (K : PySem.W.Frag) (Z : Ads) : Gs := (sSeq (sIf (gOrT (gNotT (gTru (gCall (f_is_list K Z) [] (gCons (gVarT 0) (gNil))))) (gBl (g2 oNotIn (gN oLen (gCons (gVar 0) (gNil))) (gTup (gCons (gC (.int 1)) (gCons (gC (.int 2)) (gCons (gC (.int 3)) (gNil)))))))) ((sRet (gC (.bl false)))) (sNext)) (sRet (gN oAll (gCons (gLc (giSeq (gVar 0)) (tgName 1) (gYes) (gAndV (gN (oIsiX K) (gCons (gVar 1) (gCons (gC (.ty "str")) (gNil)))) (g2 oIn (gVar 1) (gTup (gCons (gC (.str "flat")) (gCons (gC (.str "high")) (gNil)))))) [1]) (gNil)))))
noncomputable def f_are_sorts (K : PySem.W.Frag) (Z : Ads) : List T → Pr T := runB 2 (g_are_sorts K Z)
theorem b_are_sorts (X : Fx P w K mg base Z) (f : Addr) (cdv : Value) (A : Around) (outer : List PySem.Env) (s : Shared) (H : Hp) (E : XK) (hr : Room 1 (A.deeper (envOfC "are_sorts" (defScope s_are_sorts) s.heap.objs.size f cdv))) :
    GSs (cxOf (L2.CX P w) P w K mg base ["thing", "sort"] "are_sorts" (defScope s_are_sorts) f cdv A outer s H E) (fun c d _ H' => E c d H') (defBody s_are_sorts) (g_are_sorts K Z) :=
  gss_cons (gs_if (GW.t (gw_or (gt_not (gt_tru (GE.v (ge_pd (pd_is_list X) hr (by decide) (takes_of rfl rfl rfl rfl) (glen_cons glen_nil) (ga_cons (ge_var 0) (ga_nil)))))) (gw_or1 (gt_cmp (op_notInA (hu65 hr)) k_notIn (GE.v (ge_callB call_len k_len X.m_len rfl (gva_cons (gv_var 0) (gva_nil)))) (GE.v (ge_tup (ga_cons (ge_c ze_int) (ga_cons (ge_c ze_int) (ga_cons (ge_c ze_int) (ga_nil)))))))))) (gss_one (gs_ret (ge_c ze_bl))) (gss_nil)) (gss_one (gs_ret (ge_callB (cr_all rfl) k_all X.m_all rfl (gva_cons (GE.v (ge_lc (own := [("sort", 1)]) rfl sc_are_sorts.nd (blk_of (by kernel_rfl)) (gi_seq (gv_var 0)) (fun _ _ _ _ _ => gc_name 1 sc_are_sorts.nd) (fun _ _ _ _ _ => gts_nil) (fun _ _ _ _ _ => ge_and (ge_callB call_isY k_isX X.m_isinstance rfl (gva_cons (gv_var 1) (gva_cons (GE.v (ge_c (ze_bltn (v := .ty "str") (t := .ty "str") (u := .type "str") X.m_str rfl rfl fun _ _ => rep_ty))) (gva_nil)))) (ge_one (ge_cmp (op_inA (hu65 hr)) k_in (gv_var 1) (GE.v (ge_tup (ga_cons (ge_c ze_str) (ga_cons (ge_c ze_str) (ga_nil)))))))))) (gva_nil)))))
theorem pd_are_sorts (X : Fx P w K mg base Z) : PD P w K mg base "are_sorts" ["thing"] 2 [] (f_are_sorts K Z) :=
  let ⟨_, _, hm, F⟩ := X.F_are_sorts; PD.of F hm (fun_pure F sc_are_sorts (b_are_sorts X _)) (fun _ _ _ _ _ _ us hl => match us, hl with | [_], _ => rfl)
abbrev s_check_rules : Stmt := top 34
theorem sc_check_rules : FnScope ["sorts", "rules", "index", "rule"] ["sorts", "rules"] (defScope s_check_rules) := ⟨rfl, rfl, rfl, by decide +kernel, rfl, by decide +kernel, by decide +kernel⟩
noncomputable def g_check_rules (K : PySem.W.Frag) (Z : Ads) : Gs := (sSeq (sIf (gNotT (gTru (gCall (f_are_sorts K Z) [] (gCons (gVarT 0) (gNil))))) ((sRaise Z.a_BadSorts eBadSorts.f (gVarT 0))) (sNext)) (sSeq (sIf (gNotT (gTru (gCall (f_is_list K Z) [] (gCons (gVarT 1) (gNil))))) ((sRaise Z.a_BadRule eBadRule.f (gC (.int 0)))) (sNext)) (sFor (giO enOp (gCons (gVarT 1) (gNil))) (tgTup 2 (tgCons (tgName 2) (tgCons (tgName 3) (tgNil)))) ((sNever)))))
noncomputable def f_check_rules (K : PySem.W.Frag) (Z : Ads) : List T → Pr T := runB 4 (g_check_rules K Z)
theorem b_check_rules (X : Fx P w K mg base Z) (f : Addr) (cdv : Value) (A : Around) (outer : List PySem.Env) (s : Shared) (H : Hp) (E : XK) (hr : Room 2 (A.deeper (envOfC "check_rules" (defScope s_check_rules) s.heap.objs.size f cdv))) :
    GSs (cxOf (L2.CX P w) P w K mg base ["sorts", "rules", "index", "rule"] "check_rules" (defScope s_check_rules) f cdv A outer s H E) (fun c d _ H' => E c d H') (defBody s_check_rules) (g_check_rules K Z) :=
  gss_cons (gs_if (gt_not (gt_tru (GE.v (ge_pd (pd_are_sorts X) hr (by decide) (takes_of rfl rfl rfl rfl) (glen_cons glen_nil) (ga_cons (ge_var 0) (ga_nil)))))) (gss_one (gs_raise rfl X.q_BadSorts hr (takes_of rfl rfl rfl rfl) (ge_var 0))) (gss_nil)) (gss_cons (gs_if (gt_not (gt_tru (GE.v (ge_pd (pd_is_list X) hr (by decide) (takes_of rfl rfl rfl rfl) (glen_cons glen_nil) (ga_cons (ge_var 1) (ga_nil)))))) (gss_one (gs_raise rfl X.q_BadRule hr (takes_of rfl rfl rfl rfl) (ge_c ze_int))) (gss_nil)) (gss_one (gs_for PassesOwn.leaving rfl (gi_en X.m_enumerate (ga_cons (ge_var 1) (ga_nil))) (gg_tup rfl (ggs_cons (gg_name 2 sc_check_rules.nd) (ggs_cons (gg_name 3 sc_check_rules.nd) (ggs_nil)))) (gss_one (gs_never)))))
theorem pd_check_rules (X : Fx P w K mg base Z) : PD P w K mg base "check_rules" ["sorts", "rules"] 3 [] (f_check_rules K Z) :=
  let ⟨_, _, hm, F⟩ := X.F_check_rules; PD.of F hm (fun_pure F sc_check_rules (b_check_rules X _)) (fun _ _ _ _ _ _ us hl => match us, hl with | [_, _], _ => rfl)
abbrev s_Program_init : Stmt := inCls 0 (top 35)
theorem sc_Program_init : FnScope ["self", "sorts", "rules", "names", "head", "parts", "own", "how", "rule", "part"] ["self", "sorts", "rules"] (defScope s_Program_init) := ⟨rfl, rfl, rfl, by decide +kernel, rfl, by decide +kernel, by decide +kernel⟩
noncomputable def g_Program_init (K : PySem.W.Frag) (Z : Ads) : Ms := (msSeq (msDrop (mCallP (f_check_rules K Z) [] 2 (mCons (mVar 1) (mCons (mVar 2) (mNil))))) (msSeq (msFld K "sorts" (mVar 0) (mN oTuple (mCons (mVar 1) (mNil)))) (msSeq (msFld K "rules" (mVar 0) (mCallP (f_as_tuples K Z 8) [] 1 (mCons (mVar 2) (mNil)))) (msSeq (msAsg (mLc (miSeq (m1 (oFld K "rules") (mVar 0))) (mgName 8) (mYes) (mIx (mVar 8) (mC (.int 0))) [8]) (mgName 3)) (msSeq (msFor (miSeq (m1 (oFld K "rules") (mVar 0))) (mgTup 4 (mgCons (mgName 4) (mgCons (mgName 5) (mgCons (mgName 6) (mgCons (mgName 7) (mgNil)))))) ((msBad))) (msSeq (msFld K "names" (mVar 0) (mN oTuple (mCons (m1 oSset (mVar 3)) (mNil)))) (msFld K "kept" (mVar 0) (mC (.dk [] [])))))))))
noncomputable def f_Program_init (K : PySem.W.Frag) (Z : Ads) : Fm := runM 10 (g_Program_init K Z)
theorem b_Program_init (X : Fx P w K mg base Z) (f : Addr) (cdv : Value) (A : Around) (outer : List PySem.Env) (s : Shared) (H : Hp) (E : XK) (hr : Room 9 (A.deeper (envOfC "Program.__init__" (defScope s_Program_init) s.heap.objs.size f cdv))) :
    MSs (cxOf (L2.CX P w) P w K mg base ["self", "sorts", "rules", "names", "head", "parts", "own", "how", "rule", "part"] "Program.__init__" (defScope s_Program_init) f cdv A outer s H E) (fun c d _ H' => E c d H') (defBody s_Program_init) (g_Program_init K Z) :=
  mss_cons (ms_expr (me_pd (pd_check_rules X) hr (by decide) (takes_of rfl rfl rfl rfl) (ma_cons (me_var 1) (ma_cons (me_var 2) (ma_nil))))) (mss_cons (ms_fld (me_var 0) (me_callTy call_tuple_of k_tuple X.m_tuple rfl (ma_cons (me_var 1) (ma_nil)))) (mss_cons (ms_fld (me_var 0) (me_pd (pd_as_tuples X) hr (by decide) (takes_of rfl rfl rfl rfl) (ma_cons (me_var 2) (ma_nil)))) (mss_cons (ms_setLc 3 (own := [("rule", 8)]) rfl sc_Program_init.nd (blk_of (by kernel_rfl)) (mi_seq (me_fld (me_var 0))) (fun _ _ _ _ _ => mc_name 8 sc_Program_init.nd) (fun _ _ _ _ _ => mts_nil) (fun _ _ _ _ _ => me_ix (me_var 8) (me_c ze_int))) (mss_cons (ms_for PassesOwn.leaving rfl (mi_seq (me_fld (me_var 0))) (mg_tup rfl (mgs_cons (mg_name 4 sc_Program_init.nd) (mgs_cons (mg_name 5 sc_Program_init.nd) (mgs_cons (mg_name 6 sc_Program_init.nd) (mgs_cons (mg_name 7 sc_Program_init.nd) (mgs_nil)))))) (mss_one (ms_never))) (mss_cons (ms_fld (me_var 0) (me_callTy call_tuple_of k_tuple X.m_tuple rfl (ma_cons (me_sset rfl (hu64 hr) X.m_sorted X.m_set (me_var 3)) (ma_nil)))) (mss_one (ms_fld (me_var 0) (me_dnew))))))))
theorem make_Program (X : Fx P w K mg base Z) : MkF P w K mg base "Program" Z.o_Program 3 10 (f_Program_init K Z) :=
  let ⟨_, _, M, F⟩ := X.I_Program_init; ⟨_, _, ["self", "sorts", "rules"], X.o_Program, M, rfl, F.bindsN (fun _ _ _ _ _ _ us hl => match us, hl with | [_, _, _], _ => rfl), fun_m F sc_Program_init (b_Program_init X _)⟩
abbrev s_Program_eq : Stmt := inCls 7 (top 35)
theorem sc_Program_eq : FnScope ["self", "other"] ["self", "other"] (defScope s_Program_eq) := ⟨rfl, rfl, rfl, by decide +kernel, rfl, by decide +kernel, by decide +kernel⟩
noncomputable def g_Program_eq (K : PySem.W.Frag) (Z : Ads) : Gs := (sRet (gAndV (gN (oIsiX K) (gCons (gVar 1) (gCons (gC (.ob Z.o_Program)) (gNil)))) (g2 oEq (gTup (gCons (g1 (oFld K "sorts") (gVar 0)) (gCons (g1 (oFld K "rules") (gVar 0)) (gNil)))) (gTup (gCons (g1 (oFld K "sorts") (gVar 1)) (gCons (g1 (oFld K "rules") (gVar 1)) (gNil)))))))
noncomputable def f_Program_eq (K : PySem.W.Frag) (Z : Ads) : List T → Pr T := runB 2 (g_Program_eq K Z)
theorem b_Program_eq (X : Fx P w K mg base Z) (f : Addr) (cdv : Value) (A : Around) (outer : List PySem.Env) (s : Shared) (H : Hp) (E : XK) (hr : Room 0 (A.deeper (envOfC "Program.__eq__" (defScope s_Program_eq) s.heap.objs.size f cdv))) :
    GSs (cxOf (L2.CX P w) P w K mg base ["self", "other"] "Program.__eq__" (defScope s_Program_eq) f cdv A outer s H E) (fun c d _ H' => E c d H') (defBody s_Program_eq) (g_Program_eq K Z) :=
  gss_one (gs_ret (ge_and (ge_callB call_isY k_isX X.m_isinstance rfl (gva_cons (gv_var 1) (gva_cons (GE.v (ge_c (ze_glob X.o_Program))) (gva_nil)))) (ge_one (ge_cmp (op_eqD (hu64 hr)) k_eq (GE.v (ge_tup (ga_cons (ge_fld (gv_var 0)) (ga_cons (ge_fld (gv_var 0)) (ga_nil))))) (GE.v (ge_tup (ga_cons (ge_fld (gv_var 1)) (ga_cons (ge_fld (gv_var 1)) (ga_nil)))))))))
theorem eq_Program (X : Fx P w K mg base Z) : EqF P w K mg base Z.o_Program 1 (f_Program_eq K Z) :=
  let ⟨_, _, h1, h2, F⟩ := X.E_Program_eq; ⟨_, _, ["self", "other"], h1, h2, rfl, F.bindsN (fun _ _ _ _ _ _ us hl => match us, hl with | [_, _], _ => rfl), fun_pure F sc_Program_eq (b_Program_eq X _)⟩
abbrev s__law_source : Stmt := top 37
theorem sc__law_source : FnScope ["_law_script", "_law_place", "_law_cell", "_law_seed", "_law_other"] ["_law_script", "_law_place"] (defScope s__law_source) := ⟨rfl, rfl, rfl, by decide +kernel, rfl, by decide +kernel, by decide +kernel⟩
noncomputable def g__law_source (K : PySem.W.Frag) (Z : Ads) : Ms := (msSeq (msAsg (mIf (mBl (m2 oLt (mVar 1) (mN oLen (mCons (mVar 0) (mNil))))) (mIx (mVar 0) (mVar 1)) (m2 oPlus (m2 oPlus (m2 oMod (mN oInt (mCons (mN oSum (mCons (mSl (mVar 0) (moNone) (moSome (mC (.int 1)))) (mNil))) (mNil))) (mC (.int 1000003))) (m2 oTimesX (mC (.int 13)) (mVar 1))) (mC (.int 3)))) (mgName 2)) (msSeq (msAsg (m2 oPlus (m2 oTimesX (mC (.int 7919)) (mVar 1)) (mC (.int 17))) (mgName 3)) (msSeq (msFor (miSeq (mVar 0)) (mgName 4) ((msAsg (m2 oMod (mN oInt (mCons (m2 oPlus (m2 oTimesX (mVar 3) (mC (.int 37))) (mVar 4)) (mNil))) (mC (.int 2147483629))) (mgName 3)))) (msRet (mLstR (mCons (mIf (mBl (m2 oGe (mVar 2) (m2 oPow (mC (.int 10)) (mC (.int 18))))) (mVar 2) (mC (.int 0))) (mCons (m2 oMod (mN oInt (mCons (m2 oPlus (mVar 3) (m2 oTimesX (mC (.int 48271)) (mVar 2))) (mNil))) (mC (.int 2147483629))) (mCons (mC (.int 0)) (mNil)))))))))
noncomputable def f__law_source (K : PySem.W.Frag) (Z : Ads) : Fm := runM 5 (g__law_source K Z)
theorem b__law_source (X : Fx P w K mg base Z) (f : Addr) (cdv : Value) (A : Around) (outer : List PySem.Env) (s : Shared) (H : Hp) (E : XK) (hr : Room 0 (A.deeper (envOfC "_law_source" (defScope s__law_source) s.heap.objs.size f cdv))) :
    MSs (cxOf (L2.CX P w) P w K mg base ["_law_script", "_law_place", "_law_cell", "_law_seed", "_law_other"] "_law_source" (defScope s__law_source) f cdv A outer s H E) (fun c d _ H' => E c d H') (defBody s__law_source) (g__law_source K Z) :=
  mss_cons (ms_set 2 sc__law_source.nd (me_ifExp (mt_cmp op_lt k_lt (me_var 1) (me_callB call_len k_len X.m_len rfl (ma_cons (me_var 0) (ma_nil)))) (me_ix (me_var 0) (me_var 1)) (me_op op_plus k_plus (me_op op_plus k_plus (me_op op_mod k_mod (me_callTy call_int1 k_int X.m_int rfl (ma_cons (me_callB (cr_sum rfl) k_sum X.m_sum rfl (ma_cons (me_slice (me_var 0) (mo_none) (mo_some (me_c ze_int))) (ma_nil))) (ma_nil))) (me_c ze_int)) (me_op op_timesX k_timesX (me_c ze_int) (me_var 1))) (me_c ze_int)))) (mss_cons (ms_set 3 sc__law_source.nd (me_op op_plus k_plus (me_op op_timesX k_timesX (me_c ze_int) (me_var 1)) (me_c ze_int))) (mss_cons (ms_for PassesOwn.leaving rfl (mi_seq (me_var 0)) (mg_name 4 sc__law_source.nd) (mss_one (ms_set 3 sc__law_source.nd (me_op op_mod k_mod (me_callTy call_int1 k_int X.m_int rfl (ma_cons (me_op op_plus k_plus (me_op op_timesX k_timesX (me_var 3) (me_c ze_int)) (me_var 4)) (ma_nil))) (me_c ze_int))))) (mss_one (ms_ret (me_lstR (ma_cons (me_ifExp (mt_cmp op_ge k_ge (me_var 2) (me_op op_pow k_pow (me_c ze_int) (me_c ze_int))) (me_var 2) (me_c ze_int)) (ma_cons (me_op op_mod k_mod (me_callTy call_int1 k_int X.m_int rfl (ma_cons (me_op op_plus k_plus (me_var 3) (me_op op_timesX k_timesX (me_c ze_int) (me_var 2))) (ma_nil))) (me_c ze_int)) (ma_cons (me_c ze_int) (ma_nil)))))))))
theorem md__law_source (X : Fx P w K mg base Z) : MD P w K mg base "_law_source" ["_law_script", "_law_place"] 1 [] (f__law_source K Z) :=
  let ⟨_, _, hm, F⟩ := X.F__law_source; MD.of F hm (fun_m F sc__law_source (b__law_source X _)) (fun _ _ _ _ _ _ us hl => match us, hl with | [_, _], _ => rfl)
abbrev s__law_draw : Stmt := top 38
theorem sc__law_draw : FnScope ["_law_draws", "_law_many", "_law_found", "_law_seed"] ["_law_draws", "_law_many"] (defScope s__law_draw) := ⟨rfl, rfl, rfl, by decide +kernel, rfl, by decide +kernel, by decide +kernel⟩
noncomputable def g__law_draw (K : PySem.W.Frag) (Z : Ads) : Ms := (msSeq (msIf (mBl (m2 oGt (mIx (mVar 0) (mC (.int 0))) (mC (.int 0)))) ((msSeq (msAsg (m2 oMod (mN oInt (mCons (mIx (mVar 0) (mC (.int 0))) (mNil))) (mVar 1)) (mgName 2)) (msSeq (msAsg (m2 oDiv (mIx (mVar 0) (mC (.int 0))) (mVar 1)) (mgSub (mVar 0) (mC (.int 0)))) (msRet (mVar 2))))) (msNext)) (msSeq (msAsg (m2 oPlus (mIx (mVar 0) (mC (.int 2))) (mC (.int 1))) (mgSub (mVar 0) (mC (.int 2)))) (msSeq (msAsg (m2 oMod (m2 oPow (mN oInt (mCons (m2 oPlus (mIx (mVar 0) (mC (.int 1))) (m2 oTimesX (mC (.int 7919)) (mIx (mVar 0) (mC (.int 2))))) (mNil))) (mC (.int 5))) (mC (.int 2147483647))) (mgName 3)) (msRet (m2 oMod (m2 oDiv (m2 oMod (mN oInt (mCons (m2 oTimesX (m2 oPlus (mVar 3) (mIx (mVar 0) (mC (.int 2)))) (mC (.int 40692))) (mNil))) (mC (.int 2147483629))) (mC (.int 16))) (mVar 1))))))
noncomputable def f__law_draw (K : PySem.W.Frag) (Z : Ads) : Fm := runM 4 (g__law_draw K Z)
theorem b__law_draw (X : Fx P w K mg base Z) (f : Addr) (cdv : Value) (A : Around) (outer : List PySem.Env) (s : Shared) (H : Hp) (E : XK) (hr : Room 0 (A.deeper (envOfC "_law_draw" (defScope s__law_draw) s.heap.objs.size f cdv))) :
    MSs (cxOf (L2.CX P w) P w K mg base ["_law_draws", "_law_many", "_law_found", "_law_seed"] "_law_draw" (defScope s__law_draw) f cdv A outer s H E) (fun c d _ H' => E c d H') (defBody s__law_draw) (g__law_draw K Z) :=
  mss_cons (ms_if (mt_cmp op_gt k_gt (me_ix (me_var 0) (me_c ze_int)) (me_c ze_int)) (mss_cons (ms_set 2 sc__law_draw.nd (me_op op_mod k_mod (me_callTy call_int1 k_int X.m_int rfl (ma_cons (me_ix (me_var 0) (me_c ze_int)) (ma_nil))) (me_var 1))) (mss_cons (ms_asg (me_op op_fdivW k_div (me_ix (me_var 0) (me_c ze_int)) (me_var 1)) (mg_sub (me_var 0) (me_c ze_int))) (mss_one (ms_ret (me_var 2))))) (mss_nil)) (mss_cons (ms_asg (me_op op_plus k_plus (me_ix (me_var 0) (me_c ze_int)) (me_c ze_int)) (mg_sub (me_var 0) (me_c ze_int))) (mss_cons (ms_set 3 sc__law_draw.nd (me_op op_mod k_mod (me_op op_pow k_pow (me_callTy call_int1 k_int X.m_int rfl (ma_cons (me_op op_plus k_plus (me_ix (me_var 0) (me_c ze_int)) (me_op op_timesX k_timesX (me_c ze_int) (me_ix (me_var 0) (me_c ze_int)))) (ma_nil))) (me_c ze_int)) (me_c ze_int))) (mss_one (ms_ret (me_op op_mod k_mod (me_op op_fdivW k_div (me_op op_mod k_mod (me_callTy call_int1 k_int X.m_int rfl (ma_cons (me_op op_timesX k_timesX (me_op op_plus k_plus (me_var 3) (me_ix (me_var 0) (me_c ze_int))) (me_c ze_int)) (ma_nil))) (me_c ze_int)) (me_c ze_int)) (me_var 1))))))
theorem md__law_draw (X : Fx P w K mg base Z) : MD P w K mg base "_law_draw" ["_law_draws", "_law_many"] 1 [] (f__law_draw K Z) :=
  let ⟨_, _, hm, F⟩ := X.F__law_draw; MD.of F hm (fun_m F sc__law_draw (b__law_draw X _)) (fun _ _ _ _ _ _ us hl => match us, hl with | [_, _], _ => rfl)
abbrev s__law_pick : Stmt := top 39
theorem sc__law_pick : FnScope ["_law_draws", "_law_some"] ["_law_draws", "_law_some"] (defScope s__law_pick) := ⟨rfl, rfl, rfl, by decide +kernel, rfl, by decide +kernel, by decide +kernel⟩
noncomputable def g__law_pick (K : PySem.W.Frag) (Z : Ads) : Ms := (msRet (mIx (mVar 1) (mCall (f__law_draw K Z) [] 2 (mCons (mVar 0) (mCons (mN oLen (mCons (mVar 1) (mNil))) (mNil))))))
noncomputable def f__law_pick (K : PySem.W.Frag) (Z : Ads) : Fm := runM 2 (g__law_pick K Z)
theorem b__law_pick (X : Fx P w K mg base Z) (f : Addr) (cdv : Value) (A : Around) (outer : List PySem.Env) (s : Shared) (H : Hp) (E : XK) (hr : Room 1 (A.deeper (envOfC "_law_pick" (defScope s__law_pick) s.heap.objs.size f cdv))) :
    MSs (cxOf (L2.CX P w) P w K mg base ["_law_draws", "_law_some"] "_law_pick" (defScope s__law_pick) f cdv A outer s H E) (fun c d _ H' => E c d H') (defBody s__law_pick) (g__law_pick K Z) :=
  mss_one (ms_ret (me_ix (me_var 1) (me_md (md__law_draw X) hr (by decide) (takes_of rfl rfl rfl rfl) (ma_cons (me_var 0) (ma_cons (me_callB call_len k_len X.m_len rfl (ma_cons (me_var 1) (ma_nil))) (ma_nil))))))
theorem md__law_pick (X : Fx P w K mg base Z) : MD P w K mg base "_law_pick" ["_law_draws", "_law_some"] 2 [] (f__law_pick K Z) :=
  let ⟨_, _, hm, F⟩ := X.F__law_pick; MD.of F hm (fun_m F sc__law_pick (b__law_pick X _)) (fun _ _ _ _ _ _ us hl => match us, hl with | [_, _], _ => rfl)
abbrev s__law_same : Stmt := top 40
theorem sc__law_same : FnScope ["_law_found", "_law_due", "_law_x", "_law_y"] ["_law_found", "_law_due"] (defScope s__law_same) := ⟨rfl, rfl, rfl, by decide +kernel, rfl, by decide +kernel, by decide +kernel⟩
noncomputable def g__law_same (K : PySem.W.Frag) (Z : Ads) (fs : List T → Pr T) : Gs := (sSeq (sIf (gTru (gN (oIsiX K) (gCons (gVar 1) (gCons (gTup (gCons (gC (.ty "list")) (gCons (gC (.ty "tuple")) (gNil)))) (gNil))))) ((sSeq (sIf (gOrT (gBl (g2 oNe (gN (oIsiX K) (gCons (gVar 0) (gCons (gC (.ty "list")) (gNil)))) (gN (oIsiX K) (gCons (gVar 1) (gCons (gC (.ty "list")) (gNil)))))) (gBl (g2 oNe (gN (oIsiX K) (gCons (gVar 0) (gCons (gC (.ty "tuple")) (gNil)))) (gN (oIsiX K) (gCons (gVar 1) (gCons (gC (.ty "tuple")) (gNil))))))) ((sRet (gC (.bl false)))) (sNext)) (sRet (gAndV (g2 (oEqX K Z.o_Program (f_Program_eq K Z)) (gN oLen (gCons (gVar 0) (gNil))) (gN oLen (gCons (gVar 1) (gNil)))) (gN oAll (gCons (gLc (giO zpOp (gCons (gVarT 0) (gCons (gVarT 1) (gNil)))) (tgTup 2 (tgCons (tgName 2) (tgCons (tgName 3) (tgNil)))) (gYes) (gCall fs [] (gCons (gVarT 2) (gCons (gVarT 3) (gNil)))) [2, 3]) (gNil))))))) (sNext)) (sSeq (sIf (gTru (gN (oIsiX K) (gCons (gVar 1) (gCons (gC (.ty "dict")) (gNil))))) ((sRet (gAndV (gN (oIsiX K) (gCons (gVar 0) (gCons (gC (.ty "dict")) (gNil)))) (gCall fs [] (gCons (g1 oItemsZ (gVar 0)) (gCons (g1 oItemsZ (gVar 1)) (gNil))))))) (sNext)) (sSeq (sIf (gTru (gN (oIsiX K) (gCons (gVar 1) (gCons (gC (.ty "int")) (gNil))))) ((sRet (gAndV (gN (oIsiX K) (gCons (gVar 0) (gCons (gC (.ty "int")) (gNil)))) (gAndV (g2 (oEqX K Z.o_Program (f_Program_eq K Z)) (gN (oIsiX K) (gCons (gVar 0) (gCons (gC (.ty "bool")) (gNil)))) (gN (oIsiX K) (gCons (gVar 1) (gCons (gC (.ty "bool")) (gNil))))) (g2 (oEqX K Z.o_Program (f_Program_eq K Z)) (gVar 0) (gVar 1)))))) (sNext)) (sRet (gAndV (gNotV (gN (oIsiX K) (gCons (gVar 0) (gCons (gTup (gCons (gC (.ty "int")) (gCons (gC (.ty "list")) (gCons (gC (.ty "tuple")) (gCons (gC (.ty "dict")) (gNil)))))) (gNil))))) (g2 (oEqX K Z.o_Program (f_Program_eq K Z)) (gVar 0) (gVar 1)))))))
noncomputable def f__law_same (K : PySem.W.Frag) (Z : Ads) : Nat → List T → Pr T
  | 0 => fun _ => .bad
  | n + 1 => runB 4 (g__law_same K Z (f__law_same K Z n))
theorem b__law_same (X : Fx P w K mg base Z) {fs : List T → Pr T} {L : Nat} (hL : 1 ≤ L) (p_self : PD P w K mg base "_law_same" ["_law_found", "_law_due"] L [] fs) (f : Addr) (cdv : Value) (A : Around) (outer : List PySem.Env) (s : Shared) (H : Hp) (E : XK) (hr : Room L (A.deeper (envOfC "_law_same" (defScope s__law_same) s.heap.objs.size f cdv))) :
    GSs (cxOf (L2.CX P w) P w K mg base ["_law_found", "_law_due", "_law_x", "_law_y"] "_law_same" (defScope s__law_same) f cdv A outer s H E) (fun c d _ H' => E c d H') (defBody s__law_same) (g__law_same K Z fs) :=
  gss_cons (gs_if (gt_tru (GE.v (ge_callB call_isY k_isX X.m_isinstance rfl (gva_cons (gv_var 1) (gva_cons (GE.v (ge_tup (ga_cons (ge_c (ze_bltn (v := .ty "list") (t := .ty "list") (u := .type "list") X.m_list rfl rfl fun _ _ => rep_ty)) (ga_cons (ge_c (ze_bltn (v := .ty "tuple") (t := .ty "tuple") (u := .type "tuple") X.m_tuple rfl rfl fun _ _ => rep_ty)) (ga_nil))))) (gva_nil)))))) (gss_cons (gs_if (GW.t (gw_or (gt_cmp (op_neD (hu64 hr)) k_ne (GE.v (ge_callB call_isY k_isX X.m_isinstance rfl (gva_cons (gv_var 0) (gva_cons (GE.v (ge_c (ze_bltn (v := .ty "list") (t := .ty "list") (u := .type "list") X.m_list rfl rfl fun _ _ => rep_ty))) (gva_nil))))) (GE.v (ge_callB call_isY k_isX X.m_isinstance rfl (gva_cons (gv_var 1) (gva_cons (GE.v (ge_c (ze_bltn (v := .ty "list") (t := .ty "list") (u := .type "list") X.m_list rfl rfl fun _ _ => rep_ty))) (gva_nil)))))) (gw_or1 (gt_cmp (op_neD (hu64 hr)) k_ne (GE.v (ge_callB call_isY k_isX X.m_isinstance rfl (gva_cons (gv_var 0) (gva_cons (GE.v (ge_c (ze_bltn (v := .ty "tuple") (t := .ty "tuple") (u := .type "tuple") X.m_tuple rfl rfl fun _ _ => rep_ty))) (gva_nil))))) (GE.v (ge_callB call_isY k_isX X.m_isinstance rfl (gva_cons (gv_var 1) (gva_cons (GE.v (ge_c (ze_bltn (v := .ty "tuple") (t := .ty "tuple") (u := .type "tuple") X.m_tuple rfl rfl fun _ _ => rep_ty))) (gva_nil))))))))) (gss_one (gs_ret (ge_c ze_bl))) (gss_nil)) (gss_one (gs_ret (ge_and (ge_cmp (op_eqX (eq_Program X) hr (Nat.le_trans (by decide) hL) takes_none5) k_eqX (GE.v (ge_callB call_len k_len X.m_len rfl (gva_cons (gv_var 0) (gva_nil)))) (GE.v (ge_callB call_len k_len X.m_len rfl (gva_cons (gv_var 1) (gva_nil))))) (ge_one (ge_callB (cr_all rfl) k_all X.m_all rfl (gva_cons (GE.v (ge_lc (own := [("_law_x", 2), ("_law_y", 3)]) rfl sc__law_same.nd (blk_of (by kernel_rfl)) (gi_zp X.m_zip (ga_cons (ge_var 0) (ga_cons (ge_var 1) (ga_nil)))) (fun _ _ _ _ _ => gc_tup rfl (gcs_cons (gc_name 2 sc__law_same.nd) (gcs_cons (gc_name 3 sc__law_same.nd) (gcs_nil)))) (fun _ _ _ _ _ => gts_nil) (fun _ _ _ _ _ => ge_pd p_self hr (Nat.le_refl _) takes_none5 (glen_cons (glen_cons glen_nil)) (ga_cons (ge_var 2) (ga_cons (ge_var 3) (ga_nil)))))) (gva_nil)))))))) (gss_nil)) (gss_cons (gs_if (gt_tru (GE.v (ge_callB call_isY k_isX X.m_isinstance rfl (gva_cons (gv_var 1) (gva_cons (GE.v (ge_c (ze_bltn (v := .ty "dict") (t := .ty "dict") (u := .type "dict") X.m_dict rfl rfl fun _ _ => rep_ty))) (gva_nil)))))) (gss_one (gs_ret (ge_and (ge_callB call_isY k_isX X.m_isinstance rfl (gva_cons (gv_var 0) (gva_cons (GE.v (ge_c (ze_bltn (v := .ty "dict") (t := .ty "dict") (u := .type "dict") X.m_dict rfl rfl fun _ _ => rep_ty))) (gva_nil)))) (ge_one (ge_pd p_self hr (Nat.le_refl _) (takes_of rfl rfl rfl rfl) (glen_cons (glen_cons glen_nil)) (ga_cons (ge_items rfl X.m_list (gv_var 0)) (ga_cons (ge_items rfl X.m_list (gv_var 1)) (ga_nil)))))))) (gss_nil)) (gss_cons (gs_if (gt_tru (GE.v (ge_callB call_isY k_isX X.m_isinstance rfl (gva_cons (gv_var 1) (gva_cons (GE.v (ge_c (ze_bltn (v := .ty "int") (t := .ty "int") (u := .type "int") X.m_int rfl rfl fun _ _ => rep_ty))) (gva_nil)))))) (gss_one (gs_ret (ge_and (ge_callB call_isY k_isX X.m_isinstance rfl (gva_cons (gv_var 0) (gva_cons (GE.v (ge_c (ze_bltn (v := .ty "int") (t := .ty "int") (u := .type "int") X.m_int rfl rfl fun _ _ => rep_ty))) (gva_nil)))) (ge_and (ge_cmp (op_eqX (eq_Program X) hr (Nat.le_trans (by decide) hL) takes_none5) k_eqX (GE.v (ge_callB call_isY k_isX X.m_isinstance rfl (gva_cons (gv_var 0) (gva_cons (GE.v (ge_c (ze_bltn (v := .ty "bool") (t := .ty "bool") (u := .type "bool") X.m_bool rfl rfl fun _ _ => rep_ty))) (gva_nil))))) (GE.v (ge_callB call_isY k_isX X.m_isinstance rfl (gva_cons (gv_var 1) (gva_cons (GE.v (ge_c (ze_bltn (v := .ty "bool") (t := .ty "bool") (u := .type "bool") X.m_bool rfl rfl fun _ _ => rep_ty))) (gva_nil)))))) (ge_one (ge_cmp (op_eqX (eq_Program X) hr (Nat.le_trans (by decide) hL) takes_none5) k_eqX (gv_var 0) (gv_var 1))))))) (gss_nil)) (gss_one (gs_ret (ge_and (ge_not (GE.v (ge_callB call_isY k_isX X.m_isinstance rfl (gva_cons (gv_var 0) (gva_cons (GE.v (ge_tup (ga_cons (ge_c (ze_bltn (v := .ty "int") (t := .ty "int") (u := .type "int") X.m_int rfl rfl fun _ _ => rep_ty)) (ga_cons (ge_c (ze_bltn (v := .ty "list") (t := .ty "list") (u := .type "list") X.m_list rfl rfl fun _ _ => rep_ty)) (ga_cons (ge_c (ze_bltn (v := .ty "tuple") (t := .ty "tuple") (u := .type "tuple") X.m_tuple rfl rfl fun _ _ => rep_ty)) (ga_cons (ge_c (ze_bltn (v := .ty "dict") (t := .ty "dict") (u := .type "dict") X.m_dict rfl rfl fun _ _ => rep_ty)) (ga_nil))))))) (gva_nil)))))) (ge_one (ge_cmp (op_eqX (eq_Program X) hr (Nat.le_trans (by decide) hL) takes_none5) k_eqX (gv_var 0) (gv_var 1))))))))
theorem pr__law_same (X : Fx P w K mg base Z) : ∀ n, PD P w K mg base "_law_same" ["_law_found", "_law_due"] (1 + n) [] (f__law_same K Z n)
  | 0 => let ⟨_, _, hm, F⟩ := X.F__law_same; PD.zero F hm (fun _ _ _ _ _ _ us hl => match us, hl with | [_, _], _ => rfl)
  | n + 1 => let ⟨_, _, hm, F⟩ := X.F__law_same; PD.of F hm (fun_pure F sc__law_same (b__law_same X (Nat.le_add_right _ _) (pr__law_same X n) _)) (fun _ _ _ _ _ _ us hl => match us, hl with | [_, _], _ => rfl)
theorem pd__law_same (X : Fx P w K mg base Z) : PD P w K mg base "_law_same" ["_law_found", "_law_due"] 9 [] (f__law_same K Z 8) := pr__law_same X 8
abbrev s__law_number : Stmt := top 41
theorem sc__law_number : FnScope ["_law_draws", "_law_way"] ["_law_draws"] (defScope s__law_number) := ⟨rfl, rfl, rfl, by decide +kernel, rfl, by decide +kernel, by decide +kernel⟩
noncomputable def g__law_number (K : PySem.W.Frag) (Z : Ads) : Ms := (msSeq (msAsg (mCall (f__law_draw K Z) [] 2 (mCons (mVar 0) (mCons (mC (.int 8)) (mNil)))) (mgName 1)) (msSeq (msIf (mBl (m2 oLt (mVar 1) (mC (.int 6)))) ((msRet (mCall (f__law_draw K Z) [] 2 (mCons (mVar 0) (mCons (mIx (mLst (mCons (mC (.int 1)) (mCons (mC (.int 4)) (mCons (mC (.int 4)) (mCons (mC (.int 7)) (mCons (mC (.int 7)) (mCons (mC (.int 12)) (mNil)))))))) (mVar 1)) (mNil)))))) (msNext)) (msRet (mIf (mBl (m2 oEq (mVar 1) (mC (.int 6)))) (mCall (f__law_draw K Z) [] 2 (mCons (mVar 0) (mCons (mC (.int 100)) (mNil)))) (mCall (f__law_draw K Z) [] 2 (mCons (mVar 0) (mCons (m2 oPow (mC (.int 10)) (mC (.int 9))) (mNil))))))))
noncomputable def f__law_number (K : PySem.W.Frag) (Z : Ads) : Fm := runM 2 (g__law_number K Z)
theorem b__law_number (X : Fx P w K mg base Z) (f : Addr) (cdv : Value) (A : Around) (outer : List PySem.Env) (s : Shared) (H : Hp) (E : XK) (hr : Room 1 (A.deeper (envOfC "_law_number" (defScope s__law_number) s.heap.objs.size f cdv))) :
    MSs (cxOf (L2.CX P w) P w K mg base ["_law_draws", "_law_way"] "_law_number" (defScope s__law_number) f cdv A outer s H E) (fun c d _ H' => E c d H') (defBody s__law_number) (g__law_number K Z) :=
  mss_cons (ms_set 1 sc__law_number.nd (me_md (md__law_draw X) hr (by decide) (takes_of rfl rfl rfl rfl) (ma_cons (me_var 0) (ma_cons (me_c ze_int) (ma_nil))))) (mss_cons (ms_if (mt_cmp op_lt k_lt (me_var 1) (me_c ze_int)) (mss_one (ms_ret (me_md (md__law_draw X) hr (by decide) (takes_of rfl rfl rfl rfl) (ma_cons (me_var 0) (ma_cons (me_ix (me_lst (ma_cons (me_c ze_int) (ma_cons (me_c ze_int) (ma_cons (me_c ze_int) (ma_cons (me_c ze_int) (ma_cons (me_c ze_int) (ma_cons (me_c ze_int) (ma_nil)))))))) (me_var 1)) (ma_nil)))))) (mss_nil)) (mss_one (ms_ret (me_ifExp (mt_cmp (op_eqD (hu64 hr)) k_eq (me_var 1) (me_c ze_int)) (me_md (md__law_draw X) hr (by decide) (takes_of rfl rfl rfl rfl) (ma_cons (me_var 0) (ma_cons (me_c ze_int) (ma_nil)))) (me_md (md__law_draw X) hr (by decide) (takes_of rfl rfl rfl rfl) (ma_cons (me_var 0) (ma_cons (me_op op_pow k_pow (me_c ze_int) (me_c ze_int)) (ma_nil))))))))
theorem md__law_number (X : Fx P w K mg base Z) : MD P w K mg base "_law_number" ["_law_draws"] 2 [] (f__law_number K Z) :=
  let ⟨_, _, hm, F⟩ := X.F__law_number; MD.of F hm (fun_m F sc__law_number (b__law_number X _)) (fun _ _ _ _ _ _ us hl => match us, hl with | [_], _ => rfl)
abbrev s__law_amount : Stmt := top 42
theorem sc__law_amount : FnScope ["_law_draws", "_law_many", "_law_k"] ["_law_draws", "_law_many"] (defScope s__law_amount) := ⟨rfl, rfl, rfl, by decide +kernel, rfl, by decide +kernel, by decide +kernel⟩
noncomputable def g__law_amount (K : PySem.W.Frag) (Z : Ads) : Ms := (msRet (mN oTuple (mCons (mLc (miO ints1 (mCons (mVar 1) (mNil))) (mgName 2) (mYes) (mCall (f__law_number K Z) [] 1 (mCons (mVar 0) (mNil))) [2]) (mNil))))
noncomputable def f__law_amount (K : PySem.W.Frag) (Z : Ads) : Fm := runM 3 (g__law_amount K Z)
theorem b__law_amount (X : Fx P w K mg base Z) (f : Addr) (cdv : Value) (A : Around) (outer : List PySem.Env) (s : Shared) (H : Hp) (E : XK) (hr : Room 2 (A.deeper (envOfC "_law_amount" (defScope s__law_amount) s.heap.objs.size f cdv))) :
    MSs (cxOf (L2.CX P w) P w K mg base ["_law_draws", "_law_many", "_law_k"] "_law_amount" (defScope s__law_amount) f cdv A outer s H E) (fun c d _ H' => E c d H') (defBody s__law_amount) (g__law_amount K Z) :=
  mss_one (ms_ret (me_callTy call_tuple_of k_tuple X.m_tuple rfl (ma_cons (me_lc (own := [("_law_k", 2)]) rfl sc__law_amount.nd (blk_of (by kernel_rfl)) (mi_rg1 X.m_range (ma_cons (me_var 1) (ma_nil))) (fun _ _ _ _ _ => mc_name 2 sc__law_amount.nd) (fun _ _ _ _ _ => mts_nil) (fun _ _ _ _ _ => me_md (md__law_number X) hr (by decide) takes_none5 (ma_cons (me_var 0) (ma_nil)))) (ma_nil))))
theorem md__law_amount (X : Fx P w K mg base Z) : MD P w K mg base "_law_amount" ["_law_draws", "_law_many"] 3 [] (f__law_amount K Z) :=
  let ⟨_, _, hm, F⟩ := X.F__law_amount; MD.of F hm (fun_m F sc__law_amount (b__law_amount X _)) (fun _ _ _ _ _ _ us hl => match us, hl with | [_, _], _ => rfl)
abbrev s__law_amounts : Stmt := top 43
theorem sc__law_amounts : FnScope ["_law_draws", "_law_many", "_law_size", "_law_found", "_law_k", "_law_way", "_law_elder", "_law_more", "_law_number_here", "_law_step"] ["_law_draws", "_law_many", "_law_size"] (defScope s__law_amounts) := ⟨rfl, rfl, rfl, by decide +kernel, rfl, by decide +kernel, by decide +kernel⟩
noncomputable def g__law_amounts (K : PySem.W.Frag) (Z : Ads) : Ms := (msSeq (msAsg (mLstR (mNil)) (mgName 3)) (msSeq (msFor (miO ints1 (mCons (mVar 2) (mNil))) (mgName 4) ((msSeq (msAsg (mIf (mBl (m2 oNe (mVar 3) (mLst (mNil)))) (mCall (f__law_draw K Z) [] 2 (mCons (mVar 0) (mCons (mC (.int 6)) (mNil)))) (mC (.int 5))) (mgName 5)) (msSeq (msAsg (mIf (mBl (m2 oLt (mVar 5) (mC (.int 3)))) (mCall (f__law_pick K Z) [] 2 (mCons (mVar 0) (mCons (mVar 3) (mNil)))) (mTup (mNil))) (mgName 6)) (msIf (mBl (m2 oEq (mVar 5) (mC (.int 0)))) ((msDrop (mApp (mVar 3) (mVar 6)))) ((msIf (mBl (m2 oLt (mVar 5) (mC (.int 3)))) ((msSeq (msAsg (mLc (miSeq (mVar 6)) (mgName 8) (mYes) (m2 oSub (mCall (f__law_draw K Z) [] 2 (mCons (mVar 0) (mCons (mC (.int 3)) (mNil)))) (mN oInt (mCons (m2 oEq (mVar 5) (mC (.int 2))) (mNil)))) [8]) (mgName 7)) (msDrop (mApp (mVar 3) (mN oTuple (mCons (mLc (miO zpOp (mCons (mVar 6) (mCons (mVar 7) (mNil)))) (mgTup 2 (mgCons (mgName 8) (mgCons (mgName 9) (mgNil)))) (mYes) (mN oMax2 (mCons (mC (.int 0)) (mCons (m2 oPlus (mVar 8) (mVar 9)) (mNil)))) [8, 9]) (mNil))))))) ((msDrop (mApp (mVar 3) (mCall (f__law_amount K Z) [] 2 (mCons (mVar 0) (mCons (mVar 1) (mNil)))))))))))))) (msRetF (mVar 3))))
noncomputable def f__law_amounts (K : PySem.W.Frag) (Z : Ads) : Fm := runM 10 (g__law_amounts K Z)
theorem b__law_amounts (X : Fx P w K mg base Z) (f : Addr) (cdv : Value) (A : Around) (outer : List PySem.Env) (s : Shared) (H : Hp) (E : XK) (hr : Room 3 (A.deeper (envOfC "_law_amounts" (defScope s__law_amounts) s.heap.objs.size f cdv))) :
    MSs (cxOf (L2.CX P w) P w K mg base ["_law_draws", "_law_many", "_law_size", "_law_found", "_law_k", "_law_way", "_law_elder", "_law_more", "_law_number_here", "_law_step"] "_law_amounts" (defScope s__law_amounts) f cdv A outer s H E) (fun c d _ H' => E c d H') (defBody s__law_amounts) (g__law_amounts K Z) :=
  mss_cons (ms_set 3 sc__law_amounts.nd (me_lstR (ma_nil))) (mss_cons (ms_for PassesOwn.leaving rfl (mi_rg1 X.m_range (ma_cons (me_var 2) (ma_nil))) (mg_name 4 sc__law_amounts.nd) (mss_cons (ms_set 5 sc__law_amounts.nd (me_ifExp (mt_cmp (op_neD (hu64 hr)) k_ne (me_var 3) (me_lst (ma_nil))) (me_md (md__law_draw X) hr (by decide) (takes_of rfl rfl rfl rfl) (ma_cons (me_var 0) (ma_cons (me_c ze_int) (ma_nil)))) (me_c ze_int))) (mss_cons (ms_set 6 sc__law_amounts.nd (me_ifExp (mt_cmp op_lt k_lt (me_var 5) (me_c ze_int)) (me_md (md__law_pick X) hr (by decide) (takes_of rfl rfl rfl rfl) (ma_cons (me_var 0) (ma_cons (me_var 3) (ma_nil)))) (me_tup (ma_nil)))) (mss_one (ms_if (mt_cmp (op_eqD (hu64 hr)) k_eq (me_var 5) (me_c ze_int)) (mss_one (ms_expr (me_append (me_var 3) (me_var 6)))) (mss_one (ms_if (mt_cmp op_lt k_lt (me_var 5) (me_c ze_int)) (mss_cons (ms_setLc 7 (own := [("_law_number_here", 8)]) rfl sc__law_amounts.nd (blk_of (by kernel_rfl)) (mi_seq (me_var 6)) (fun _ _ _ _ _ => mc_name 8 sc__law_amounts.nd) (fun _ _ _ _ _ => mts_nil) (fun _ _ _ _ _ => me_op op_sub k_sub (me_md (md__law_draw X) hr (by decide) takes_none5 (ma_cons (me_var 0) (ma_cons (me_c ze_int) (ma_nil)))) (me_callTy call_int1 k_int X.m_int rfl (ma_cons (me_cmp (op_eqD (hu64 hr)) k_eq (me_var 5) (me_c ze_int)) (ma_nil))))) (mss_one (ms_expr (me_append (me_var 3) (me_callTy call_tuple_of k_tuple X.m_tuple rfl (ma_cons (me_lc (own := [("_law_number_here", 8), ("_law_step", 9)]) rfl sc__law_amounts.nd (blk_of (by kernel_rfl)) (mi_zp X.m_zip (ma_cons (me_var 6) (ma_cons (me_var 7) (ma_nil)))) (fun _ _ _ _ _ => mc_tup rfl (mcs_cons (mc_name 8 sc__law_amounts.nd) (mcs_cons (mc_name 9 sc__law_amounts.nd) (mcs_nil)))) (fun _ _ _ _ _ => mts_nil) (fun _ _ _ _ _ => me_callB (call_max2 rfl) k_max2 X.m_max rfl (ma_cons (me_c ze_int) (ma_cons (me_op op_plus k_plus (me_var 8) (me_var 9)) (ma_nil))))) (ma_nil))))))) (mss_one (ms_expr (me_append (me_var 3) (me_md (md__law_amount X) hr (by decide) (takes_of rfl rfl rfl rfl) (ma_cons (me_var 0) (ma_cons (me_var 1) (ma_nil)))))))))))))) (mss_one (ms_retF (me_var 3))))
theorem md__law_amounts (X : Fx P w K mg base Z) : MD P w K mg base "_law_amounts" ["_law_draws", "_law_many", "_law_size"] 4 [] (f__law_amounts K Z) :=
  let ⟨_, _, hm, F⟩ := X.F__law_amounts; MD.of F hm (fun_m F sc__law_amounts (b__law_amounts X _)) (fun _ _ _ _ _ _ us hl => match us, hl with | [_, _, _], _ => rfl)
abbrev s__law_handed : Stmt := top 44
theorem sc__law_handed : FnScope ["_law_draws", "_law_rows", "_law_some", "_law_row"] ["_law_draws", "_law_rows"] (defScope s__law_handed) := ⟨rfl, rfl, rfl, by decide +kernel, rfl, by decide +kernel, by decide +kernel⟩
noncomputable def g__law_handed (K : PySem.W.Frag) (Z : Ads) : Ms := (msSeq (msAsg (mLc (miSeq (mVar 1)) (mgName 3) (mYes) (mIf (mBl (m2 oEq (mCall (f__law_draw K Z) [] 2 (mCons (mVar 0) (mCons (mC (.int 2)) (mNil)))) (mC (.int 0)))) (mN oList (mCons (mVar 3) (mNil))) (mN oTuple (mCons (mVar 3) (mNil)))) [3]) (mgName 2)) (msRet (mIf (mBl (m2 oEq (mCall (f__law_draw K Z) [] 2 (mCons (mVar 0) (mCons (mC (.int 2)) (mNil)))) (mC (.int 0)))) (mVar 2) (mN oTuple (mCons (mVar 2) (mNil))))))
noncomputable def f__law_handed (K : PySem.W.Frag) (Z : Ads) : Fm := runM 4 (g__law_handed K Z)
theorem b__law_handed (X : Fx P w K mg base Z) (f : Addr) (cdv : Value) (A : Around) (outer : List PySem.Env) (s : Shared) (H : Hp) (E : XK) (hr : Room 1 (A.deeper (envOfC "_law_handed" (defScope s__law_handed) s.heap.objs.size f cdv))) :
    MSs (cxOf (L2.CX P w) P w K mg base ["_law_draws", "_law_rows", "_law_some", "_law_row"] "_law_handed" (defScope s__law_handed) f cdv A outer s H E) (fun c d _ H' => E c d H') (defBody s__law_handed) (g__law_handed K Z) :=
  mss_cons (ms_setLc 2 (own := [("_law_row", 3)]) rfl sc__law_handed.nd (blk_of (by kernel_rfl)) (mi_seq (me_var 1)) (fun _ _ _ _ _ => mc_name 3 sc__law_handed.nd) (fun _ _ _ _ _ => mts_nil) (fun _ _ _ _ _ => me_ifExp (mt_cmp (op_eqD (hu64 hr)) k_eq (me_md (md__law_draw X) hr (by decide) takes_none5 (ma_cons (me_var 0) (ma_cons (me_c ze_int) (ma_nil)))) (me_c ze_int)) (me_callTy call_list_of k_list X.m_list rfl (ma_cons (me_var 3) (ma_nil))) (me_callTy call_tuple_of k_tuple X.m_tuple rfl (ma_cons (me_var 3) (ma_nil))))) (mss_one (ms_ret (me_ifExp (mt_cmp (op_eqD (hu64 hr)) k_eq (me_md (md__law_draw X) hr (by decide) (takes_of rfl rfl rfl rfl) (ma_cons (me_var 0) (ma_cons (me_c ze_int) (ma_nil)))) (me_c ze_int)) (me_var 2) (me_callTy call_tuple_of k_tuple X.m_tuple rfl (ma_cons (me_var 2) (ma_nil))))))
theorem md__law_handed (X : Fx P w K mg base Z) : MD P w K mg base "_law_handed" ["_law_draws", "_law_rows"] 2 [] (f__law_handed K Z) :=
  let ⟨_, _, hm, F⟩ := X.F__law_handed; MD.of F hm (fun_m F sc__law_handed (b__law_handed X _)) (fun _ _ _ _ _ _ us hl => match us, hl with | [_, _], _ => rfl)
abbrev s__law_dot : Stmt := top 45
theorem sc__law_dot : FnScope ["_law_one", "_law_other", "_law_x", "_law_y"] ["_law_one", "_law_other"] (defScope s__law_dot) := ⟨rfl, rfl, rfl, by decide +kernel, rfl, by decide +kernel, by decide +kernel⟩
noncomputable def g__law_dot (K : PySem.W.Frag) (Z : Ads) : Gs := (sRet (gN oSum (gCons (gLc (giO zpOp (gCons (gVarT 0) (gCons (gVarT 1) (gNil)))) (tgTup 2 (tgCons (tgName 2) (tgCons (tgName 3) (tgNil)))) (gYes) (g2 oTimesX (gVar 2) (gVar 3)) [2, 3]) (gNil))))
noncomputable def f__law_dot (K : PySem.W.Frag) (Z : Ads) : List T → Pr T := runB 4 (g__law_dot K Z)
theorem b__law_dot (X : Fx P w K mg base Z) (f : Addr) (cdv : Value) (A : Around) (outer : List PySem.Env) (s : Shared) (H : Hp) (E : XK) (hr : Room 0 (A.deeper (envOfC "_law_dot" (defScope s__law_dot) s.heap.objs.size f cdv))) :
    GSs (cxOf (L2.CX P w) P w K mg base ["_law_one", "_law_other", "_law_x", "_law_y"] "_law_dot" (defScope s__law_dot) f cdv A outer s H E) (fun c d _ H' => E c d H') (defBody s__law_dot) (g__law_dot K Z) :=
  gss_one (gs_ret (ge_callB (cr_sum rfl) k_sum X.m_sum rfl (gva_cons (GE.v (ge_lc (own := [("_law_x", 2), ("_law_y", 3)]) rfl sc__law_dot.nd (blk_of (by kernel_rfl)) (gi_zp X.m_zip (ga_cons (ge_var 0) (ga_cons (ge_var 1) (ga_nil)))) (fun _ _ _ _ _ => gc_tup rfl (gcs_cons (gc_name 2 sc__law_dot.nd) (gcs_cons (gc_name 3 sc__law_dot.nd) (gcs_nil)))) (fun _ _ _ _ _ => gts_nil) (fun _ _ _ _ _ => ge_op op_timesX k_timesX (gv_var 2) (gv_var 3)))) (gva_nil))))
theorem pd__law_dot (X : Fx P w K mg base Z) : PD P w K mg base "_law_dot" ["_law_one", "_law_other"] 1 [] (f__law_dot K Z) :=
  let ⟨_, _, hm, F⟩ := X.F__law_dot; PD.of F hm (fun_pure F sc__law_dot (b__law_dot X _)) (fun _ _ _ _ _ _ us hl => match us, hl with | [_, _], _ => rfl)
abbrev s__law_most : Stmt := top 46
theorem sc__law_most : FnScope ["_law_one", "_law_other", "_law_x", "_law_y"] ["_law_one", "_law_other"] (defScope s__law_most) := ⟨rfl, rfl, rfl, by decide +kernel, rfl, by decide +kernel, by decide +kernel⟩
noncomputable def g__law_most (K : PySem.W.Frag) (Z : Ads) : Gs := (sRet (gN oAll (gCons (gLc (giO zpOp (gCons (gVarT 0) (gCons (gVarT 1) (gNil)))) (tgTup 2 (tgCons (tgName 2) (tgCons (tgName 3) (tgNil)))) (gYes) (g2 oLe (gVar 2) (gVar 3)) [2, 3]) (gNil))))
noncomputable def f__law_most (K : PySem.W.Frag) (Z : Ads) : List T → Pr T := runB 4 (g__law_most K Z)
theorem b__law_most (X : Fx P w K mg base Z) (f : Addr) (cdv : Value) (A : Around) (outer : List PySem.Env) (s : Shared) (H : Hp) (E : XK) (hr : Room 0 (A.deeper (envOfC "_law_most" (defScope s__law_most) s.heap.objs.size f cdv))) :
    GSs (cxOf (L2.CX P w) P w K mg base ["_law_one", "_law_other", "_law_x", "_law_y"] "_law_most" (defScope s__law_most) f cdv A outer s H E) (fun c d _ H' => E c d H') (defBody s__law_most) (g__law_most K Z) :=
  gss_one (gs_ret (ge_callB (cr_all rfl) k_all X.m_all rfl (gva_cons (GE.v (ge_lc (own := [("_law_x", 2), ("_law_y", 3)]) rfl sc__law_most.nd (blk_of (by kernel_rfl)) (gi_zp X.m_zip (ga_cons (ge_var 0) (ga_cons (ge_var 1) (ga_nil)))) (fun _ _ _ _ _ => gc_tup rfl (gcs_cons (gc_name 2 sc__law_most.nd) (gcs_cons (gc_name 3 sc__law_most.nd) (gcs_nil)))) (fun _ _ _ _ _ => gts_nil) (fun _ _ _ _ _ => ge_cmp op_le k_le (gv_var 2) (gv_var 3)))) (gva_nil))))
theorem pd__law_most (X : Fx P w K mg base Z) : PD P w K mg base "_law_most" ["_law_one", "_law_other"] 1 [] (f__law_most K Z) :=
  let ⟨_, _, hm, F⟩ := X.F__law_most; PD.of F hm (fun_pure F sc__law_most (b__law_most X _)) (fun _ _ _ _ _ _ us hl => match us, hl with | [_, _], _ => rfl)
abbrev s__law_least : Stmt := top 47
theorem sc__law_least : FnScope ["_law_rows", "_law_some", "_law_k", "_law_row", "_law_one"] ["_law_rows"] (defScope s__law_least) := ⟨rfl, rfl, rfl, by decide +kernel, rfl, by decide +kernel, by decide +kernel⟩
noncomputable def g__law_least (K : PySem.W.Frag) (Z : Ads) : Gs := (sSeq (sAsg (gLc (giO enOp (gCons (gVarT 0) (gNil))) (tgTup 2 (tgCons (tgName 2) (tgCons (tgName 3) (tgNil)))) (gBl (g2 oNotIn (gVar 3) (gSl (gVar 0) (goNone) (goSome (gVarT 2))))) (gVarT 3) [2, 3]) (tgName 1)) (sRet (gN oSorted (gCons (gLc (giSeq (gVar 1)) (tgName 3) (gNotT (gTru (gN oAny (gCons (gLc (giSeq (gVar 1)) (tgName 4) (gYes) (gAndV (g2 oNe (gVar 4) (gVar 3)) (gCall (f__law_most K Z) [] (gCons (gVarT 4) (gCons (gVarT 3) (gNil))))) [4]) (gNil))))) (gVarT 3) [3]) (gNil)))))
noncomputable def f__law_least (K : PySem.W.Frag) (Z : Ads) : List T → Pr T := runB 5 (g__law_least K Z)
theorem b__law_least (X : Fx P w K mg base Z) (f : Addr) (cdv : Value) (A : Around) (outer : List PySem.Env) (s : Shared) (H : Hp) (E : XK) (hr : Room 1 (A.deeper (envOfC "_law_least" (defScope s__law_least) s.heap.objs.size f cdv))) :
    GSs (cxOf (L2.CX P w) P w K mg base ["_law_rows", "_law_some", "_law_k", "_law_row", "_law_one"] "_law_least" (defScope s__law_least) f cdv A outer s H E) (fun c d _ H' => E c d H') (defBody s__law_least) (g__law_least K Z) :=
  gss_cons (gs_set 1 sc__law_least.nd (ge_lc (own := [("_law_k", 2), ("_law_row", 3)]) rfl sc__law_least.nd (blk_of (by kernel_rfl)) (gi_en X.m_enumerate (ga_cons (ge_var 0) (ga_nil))) (fun _ _ _ _ _ => gc_tup rfl (gcs_cons (gc_name 2 sc__law_least.nd) (gcs_cons (gc_name 3 sc__law_least.nd) (gcs_nil)))) (fun _ _ _ _ _ => gts_one (gt_cmp (op_notInA (hu65 hr)) k_notIn (gv_var 3) (GE.v (ge_slice (gv_var 0) (go_none) (go_some (ge_var 2)))))) (fun _ _ _ _ _ => ge_var 3))) (gss_one (gs_ret (ge_callB cr_sortA k_sorted X.m_sorted rfl (gva_cons (GE.v (ge_lc (own := [("_law_row", 3)]) rfl sc__law_least.nd (blk_of (by kernel_rfl)) (gi_seq (gv_var 1)) (fun _ _ _ _ _ => gc_name 3 sc__law_least.nd) (fun _ _ _ _ _ => gts_one (gt_not (gt_tru (GE.v (ge_callB (cr_any rfl) k_any X.m_any rfl (gva_cons (GE.v (ge_lc (own := [("_law_one", 4)]) rfl sc__law_least.nd (blk_of (by kernel_rfl)) (gi_seq (gv_var 1)) (fun _ _ _ _ _ => gc_name 4 sc__law_least.nd) (fun _ _ _ _ _ => gts_nil) (fun _ _ _ _ _ => ge_and (ge_cmp (op_neD (hu64 hr)) k_ne (gv_var 4) (gv_var 3)) (ge_one (ge_pd (pd__law_most X) hr (by decide) takes_none5 (glen_cons (glen_cons glen_nil)) (ga_cons (ge_var 4) (ga_cons (ge_var 3) (ga_nil)))))))) (gva_nil))))))) (fun _ _ _ _ _ => ge_var 3))) (gva_nil)))))
theorem pd__law_least (X : Fx P w K mg base Z) : PD P w K mg base "_law_least" ["_law_rows"] 2 [] (f__law_least K Z) :=
  let ⟨_, _, hm, F⟩ := X.F__law_least; PD.of F hm (fun_pure F sc__law_least (b__law_least X _)) (fun _ _ _ _ _ _ us hl => match us, hl with | [_], _ => rfl)
abbrev s__law_odd : Stmt := top 48
theorem sc__law_odd : FnScope ["_law_draws", "_law_some"] ["_law_draws"] (defScope s__law_odd) := ⟨rfl, rfl, rfl, by decide +kernel, rfl, by decide +kernel, by decide +kernel⟩
noncomputable def g__law_odd (K : PySem.W.Frag) (Z : Ads) : Ms := (msSeq (msAsg (mLst (mCons (mC (.non)) (mCons (mC (.bl true)) (mCons (mC (.int 5)) (mCons (m1 oNeg (mC (.int 1))) (mCons (mC (.str "ab")) (mCons (mC (.str "")) (mCons (mLst (mNil)) (mCons (mTup (mNil)) (mCons (mTup (mCons (mC (.int 1)) (mCons (mC (.int 2)) (mCons (mC (.int 3)) (mCons (mC (.int 4)) (mNil)))))) (mCons (mLst (mCons (mC (.int 0)) (mCons (m1 oNeg (mC (.int 1))) (mNil)))) (mCons (mTup (mCons (mC (.int 1)) (mCons (mC (.bl true)) (mNil)))) (mCons (mTup (mCons (mC (.bl false)) (mNil))) (mCons (mLst (mCons (mLst (mCons (mC (.int 1)) (mNil))) (mCons (mLst (mCons (mC (.int 2)) (mNil))) (mNil)))) (mCons (mC (.dk [] [])) (mCons (mD1 (.inl 1) (mC (.int 2))) (mNil))))))))))))))))) (mgName 1)) (msSeq (msAsg (m2 oPlus (mVar 1) (mLst (mCons (mTup (mCons (mC (.int 1)) (mCons (mC (.non)) (mNil)))) (mCons (mTup (mCons (mC (.str "1")) (mCons (mC (.str "2")) (mNil)))) (mCons (mLst (mCons (mC (.int 1)) (mCons (mC (.str "1")) (mCons (mC (.int 1)) (mNil))))) (mCons (mTup (mCons (mC (.int 0)) (mCons (mTup (mCons (mC (.int 1)) (mNil))) (mNil)))) (mCons (mLst (mCons (m1 oNeg (mC (.int 1))) (mNil))) (mCons (mTup (mCons (mC (.int 2)) (mCons (mC (.int 3)) (mCons (m1 oNeg (mC (.int 4))) (mNil))))) (mNil))))))))) (mgName 1)) (msRet (mCall (f__law_pick K Z) [] 2 (mCons (mVar 0) (mCons (m2 oPlus (mVar 1) (mLst (mCons (mC (.ob Z.o__law_dot)) (mCons (mFz (mMake Z.o_Program (f_Program_init K Z) 3 (mCons (mLst (mCons (mC (.str "flat")) (mNil))) (mCons (mLst (mNil)) (mNil))))) (mNil))))) (mNil)))))))
noncomputable def f__law_odd (K : PySem.W.Frag) (Z : Ads) : Fm := runM 2 (g__law_odd K Z)
theorem b__law_odd (X : Fx P w K mg base Z) (f : Addr) (cdv : Value) (A : Around) (outer : List PySem.Env) (s : Shared) (H : Hp) (E : XK) (hr : Room 11 (A.deeper (envOfC "_law_odd" (defScope s__law_odd) s.heap.objs.size f cdv))) :
    MSs (cxOf (L2.CX P w) P w K mg base ["_law_draws", "_law_some"] "_law_odd" (defScope s__law_odd) f cdv A outer s H E) (fun c d _ H' => E c d H') (defBody s__law_odd) (g__law_odd K Z) :=
  mss_cons (ms_set 1 sc__law_odd.nd (me_lst (ma_cons (me_c ze_non) (ma_cons (me_c ze_bl) (ma_cons (me_c ze_int) (ma_cons (me_un un_neg k_neg (me_c ze_int)) (ma_cons (me_c ze_str) (ma_cons (me_c ze_str) (ma_cons (me_lst (ma_nil)) (ma_cons (me_tup (ma_nil)) (ma_cons (me_tup (ma_cons (me_c ze_int) (ma_cons (me_c ze_int) (ma_cons (me_c ze_int) (ma_cons (me_c ze_int) (ma_nil)))))) (ma_cons (me_lst (ma_cons (me_c ze_int) (ma_cons (me_un un_neg k_neg (me_c ze_int)) (ma_nil)))) (ma_cons (me_tup (ma_cons (me_c ze_int) (ma_cons (me_c ze_bl) (ma_nil)))) (ma_cons (me_tup (ma_cons (me_c ze_bl) (ma_nil))) (ma_cons (me_lst (ma_cons (me_lst (ma_cons (me_c ze_int) (ma_nil))) (ma_cons (me_lst (ma_cons (me_c ze_int) (ma_nil))) (ma_nil)))) (ma_cons (me_dnew) (ma_cons (me_d1i (me_c ze_int)) (ma_nil)))))))))))))))))) (mss_cons (ms_set 1 sc__law_odd.nd (me_op op_plus k_plus (me_var 1) (me_lst (ma_cons (me_tup (ma_cons (me_c ze_int) (ma_cons (me_c ze_non) (ma_nil)))) (ma_cons (me_tup (ma_cons (me_c ze_str) (ma_cons (me_c ze_str) (ma_nil)))) (ma_cons (me_lst (ma_cons (me_c ze_int) (ma_cons (me_c ze_str) (ma_cons (me_c ze_int) (ma_nil))))) (ma_cons (me_tup (ma_cons (me_c ze_int) (ma_cons (me_tup (ma_cons (me_c ze_int) (ma_nil))) (ma_nil)))) (ma_cons (me_lst (ma_cons (me_un un_neg k_neg (me_c ze_int)) (ma_nil))) (ma_cons (me_tup (ma_cons (me_c ze_int) (ma_cons (me_c ze_int) (ma_cons (me_un un_neg k_neg (me_c ze_int)) (ma_nil))))) (ma_nil)))))))))) (mss_one (ms_ret (me_md (md__law_pick X) hr (by decide) (takes_of rfl rfl rfl rfl) (ma_cons (me_var 0) (ma_cons (me_op op_plus k_plus (me_var 1) (me_lst (ma_cons (me_c (ze_glob X.o__law_dot)) (ma_cons (me_fz (me_make (make_Program X) hr (by decide) (ma_cons (me_lst (ma_cons (me_c ze_str) (ma_nil))) (ma_cons (me_lst (ma_nil)) (ma_nil))))) (ma_nil))))) (ma_nil)))))))
theorem md__law_odd (X : Fx P w K mg base Z) : MD P w K mg base "_law_odd" ["_law_draws"] 12 [] (f__law_odd K Z) :=
  let ⟨_, _, hm, F⟩ := X.F__law_odd; MD.of F hm (fun_m F sc__law_odd (b__law_odd X _)) (fun _ _ _ _ _ _ us hl => match us, hl with | [_], _ => rfl)
abbrev s__law_told_rows : Stmt := top 49
theorem sc__law_told_rows : FnScope ["_law_amounts_here", "_law_found", "error"] ["_law_amounts_here"] (defScope s__law_told_rows) := ⟨rfl, rfl, rfl, by decide +kernel, rfl, by decide +kernel, by decide +kernel⟩
noncomputable def g__law_told_rows (K : PySem.W.Frag) (Z : Ads) : Ms := (msSeq (msTry K ((msAsg (mLstR (mCons (mC (.str "told")) (mCons (mCall (f_least_rows K Z) [] 1 (mCons (mVar 0) (mNil))) (mNil)))) (mgName 1))) [(.ref Z.a_BadAmounts, 2, fun a cls d => (msAsg (mLstR (mCons (mC (.str "refused")) (mCons (mErrF Z.a_BadAmounts "index" a cls d (mVar 2)) (mNil)))) (mgName 1)))]) (msRet (mVar 1)))
noncomputable def f__law_told_rows (K : PySem.W.Frag) (Z : Ads) : Fm := runM 3 (g__law_told_rows K Z)
theorem b__law_told_rows (X : Fx P w K mg base Z) (f : Addr) (cdv : Value) (A : Around) (outer : List PySem.Env) (s : Shared) (H : Hp) (E : XK) (hr : Room 5 (A.deeper (envOfC "_law_told_rows" (defScope s__law_told_rows) s.heap.objs.size f cdv))) :
    MSs (cxOf (L2.CX P w) P w K mg base ["_law_amounts_here", "_law_found", "error"] "_law_told_rows" (defScope s__law_told_rows) f cdv A outer s H E) (fun c d _ H' => E c d H') (defBody s__law_told_rows) (g__law_told_rows K Z) :=
  mss_cons (ms_try rfl rfl sc__law_told_rows.nd (takes_of rfl rfl rfl rfl) (fun W pn xe tk _ => mss_one (ms_set 1 sc__law_told_rows.nd (me_lstR (ma_cons (me_c ze_str) (ma_cons (me_md (md_least_rows X) hr (by decide) tk (ma_cons (me_var 0) (ma_nil))) (ma_nil)))))) (.cons rfl rfl ⟨rfl, by decide, .inl X.q_BadAmounts.gC⟩ (fun a oe cls d pn hz hf => mss_one (ms_set 1 sc__law_told_rows.nd (me_lstR (ma_cons (me_c ze_str) (ma_cons (me_errf X.q_BadAmounts hz hf (me_var 2)) (ma_nil)))))) (.nil))) (mss_one (ms_ret (me_var 1)))
theorem md__law_told_rows (X : Fx P w K mg base Z) : MD P w K mg base "_law_told_rows" ["_law_amounts_here"] 6 [] (f__law_told_rows K Z) :=
  let ⟨_, _, hm, F⟩ := X.F__law_told_rows; MD.of F hm (fun_m F sc__law_told_rows (b__law_told_rows X _)) (fun _ _ _ _ _ _ us hl => match us, hl with | [_], _ => rfl)
theorem mk__law_told_rows_0 (X : Fx P w K mg base Z) : MDK P w K mg base "_law_told_rows" ["_law_amounts_here"] ["_law_amounts_here"] [0] 6 (f__law_told_rows K Z) :=
  let ⟨_, _, hm, F⟩ := X.F__law_told_rows; MDK.of F hm (fun_m F sc__law_told_rows (b__law_told_rows X _)) fun _ _ _ _ _ _ ws hl => match ws, hl with | [_], _ => rfl
abbrev s__law_told_cost : Stmt := top 50
theorem sc__law_told_cost : FnScope ["_law_amount_here", "_law_prices_here", "_law_found", "error"] ["_law_amount_here", "_law_prices_here"] (defScope s__law_told_cost) := ⟨rfl, rfl, rfl, by decide +kernel, rfl, by decide +kernel, by decide +kernel⟩
noncomputable def g__law_told_cost (K : PySem.W.Frag) (Z : Ads) : Ms := (msSeq (msTry K ((msAsg (mLst (mCons (mC (.str "told")) (mCons (mCallP (f_cost K Z) [] 2 (mCons (mVar 0) (mCons (mVar 1) (mNil)))) (mNil)))) (mgName 2))) [(.ref Z.a_BadAmount, 3, fun a cls d => (msAsg (mLst (mCons (mC (.str "amount")) (mCons (mErrF Z.a_BadAmount "amount" a cls d (mVar 3)) (mNil)))) (mgName 2))), (.ref Z.a_BadPrices, 3, fun a cls d => (msAsg (mLst (mCons (mC (.str "prices")) (mCons (mErrF Z.a_BadPrices "prices" a cls d (mVar 3)) (mNil)))) (mgName 2)))]) (msRet (mVar 2)))
noncomputable def f__law_told_cost (K : PySem.W.Frag) (Z : Ads) : Fm := runM 4 (g__law_told_cost K Z)
theorem b__law_told_cost (X : Fx P w K mg base Z) (f : Addr) (cdv : Value) (A : Around) (outer : List PySem.Env) (s : Shared) (H : Hp) (E : XK) (hr : Room 5 (A.deeper (envOfC "_law_told_cost" (defScope s__law_told_cost) s.heap.objs.size f cdv))) :
    MSs (cxOf (L2.CX P w) P w K mg base ["_law_amount_here", "_law_prices_here", "_law_found", "error"] "_law_told_cost" (defScope s__law_told_cost) f cdv A outer s H E) (fun c d _ H' => E c d H') (defBody s__law_told_cost) (g__law_told_cost K Z) :=
  mss_cons (ms_try rfl rfl sc__law_told_cost.nd (takes_of rfl rfl rfl rfl) (fun W pn xe tk _ => mss_one (ms_set 2 sc__law_told_cost.nd (me_lst (ma_cons (me_c ze_str) (ma_cons (me_pd (pd_cost X) hr (by decide) tk (ma_cons (me_var 0) (ma_cons (me_var 1) (ma_nil)))) (ma_nil)))))) (.cons rfl rfl ⟨rfl, by decide, .inl X.q_BadAmount.gC⟩ (fun a oe cls d pn hz hf => mss_one (ms_set 2 sc__law_told_cost.nd (me_lst (ma_cons (me_c ze_str) (ma_cons (me_errf X.q_BadAmount hz hf (me_var 3)) (ma_nil)))))) (.cons rfl rfl ⟨rfl, by decide, .inl X.q_BadPrices.gC⟩ (fun a oe cls d pn hz hf => mss_one (ms_set 2 sc__law_told_cost.nd (me_lst (ma_cons (me_c ze_str) (ma_cons (me_errf X.q_BadPrices hz hf (me_var 3)) (ma_nil)))))) (.nil)))) (mss_one (ms_ret (me_var 2)))
theorem md__law_told_cost (X : Fx P w K mg base Z) : MD P w K mg base "_law_told_cost" ["_law_amount_here", "_law_prices_here"] 6 [] (f__law_told_cost K Z) :=
  let ⟨_, _, hm, F⟩ := X.F__law_told_cost; MD.of F hm (fun_m F sc__law_told_cost (b__law_told_cost X _)) (fun _ _ _ _ _ _ us hl => match us, hl with | [_, _], _ => rfl)
theorem mk__law_told_cost_1_0 (X : Fx P w K mg base Z) : MDK P w K mg base "_law_told_cost" ["_law_amount_here", "_law_prices_here"] ["_law_prices_here", "_law_amount_here"] [1, 0] 6 (f__law_told_cost K Z) :=
  let ⟨_, _, hm, F⟩ := X.F__law_told_cost; MDK.of F hm (fun_m F sc__law_told_cost (b__law_told_cost X _)) fun _ _ _ _ _ _ ws hl => match ws, hl with | [_, _], _ => rfl
abbrev s__law_prices : Stmt := top 51
theorem sc__law_prices : FnScope ["_law_draws", "_law_many", "_law_row", "_law_k"] ["_law_draws", "_law_many"] (defScope s__law_prices) := ⟨rfl, rfl, rfl, by decide +kernel, rfl, by decide +kernel, by decide +kernel⟩
noncomputable def g__law_prices (K : PySem.W.Frag) (Z : Ads) : Ms := (msSeq (msAsg (mLcR (miO ints1 (mCons (mVar 1) (mNil))) (mgName 3) (mYes) (mCall (f__law_pick K Z) [] 2 (mCons (mVar 0) (mCons (mLst (mCons (mC (.int 0)) (mCons (mC (.int 1)) (mCons (mC (.int 2)) (mCons (mC (.int 3)) (mCons (mC (.int 7)) (mCons (mC (.int 100)) (mCons (m2 oPow (mC (.int 10)) (mC (.int 9))) (mNil))))))))) (mNil)))) [3]) (mgName 2)) (msSeq (msAsg (m2 oPlus (mC (.int 1)) (mCall (f__law_draw K Z) [] 2 (mCons (mVar 0) (mCons (mC (.int 12)) (mNil))))) (mgSub (mVar 2) (mCall (f__law_draw K Z) [] 2 (mCons (mVar 0) (mCons (mVar 1) (mNil)))))) (msRet (mVar 2))))
noncomputable def f__law_prices (K : PySem.W.Frag) (Z : Ads) : Fm := runM 4 (g__law_prices K Z)
theorem b__law_prices (X : Fx P w K mg base Z) (f : Addr) (cdv : Value) (A : Around) (outer : List PySem.Env) (s : Shared) (H : Hp) (E : XK) (hr : Room 2 (A.deeper (envOfC "_law_prices" (defScope s__law_prices) s.heap.objs.size f cdv))) :
    MSs (cxOf (L2.CX P w) P w K mg base ["_law_draws", "_law_many", "_law_row", "_law_k"] "_law_prices" (defScope s__law_prices) f cdv A outer s H E) (fun c d _ H' => E c d H') (defBody s__law_prices) (g__law_prices K Z) :=
  mss_cons (ms_setLcR 2 (own := [("_law_k", 3)]) rfl sc__law_prices.nd (blk_of (by kernel_rfl)) (mi_rg1 X.m_range (ma_cons (me_var 1) (ma_nil))) (fun _ _ _ _ _ => mc_name 3 sc__law_prices.nd) (fun _ _ _ _ _ => mts_nil) (fun _ _ _ _ _ => me_md (md__law_pick X) hr (by decide) takes_none5 (ma_cons (me_var 0) (ma_cons (me_lst (ma_cons (me_c ze_int) (ma_cons (me_c ze_int) (ma_cons (me_c ze_int) (ma_cons (me_c ze_int) (ma_cons (me_c ze_int) (ma_cons (me_c ze_int) (ma_cons (me_op op_pow k_pow (me_c ze_int) (me_c ze_int)) (ma_nil))))))))) (ma_nil))))) (mss_cons (ms_asg (me_op op_plus k_plus (me_c ze_int) (me_md (md__law_draw X) hr (by decide) (takes_of rfl rfl rfl rfl) (ma_cons (me_var 0) (ma_cons (me_c ze_int) (ma_nil))))) (mg_sub (me_var 2) (me_md (md__law_draw X) hr (by decide) takes_none5 (ma_cons (me_var 0) (ma_cons (me_var 1) (ma_nil)))))) (mss_one (ms_ret (me_var 2))))
theorem md__law_prices (X : Fx P w K mg base Z) : MD P w K mg base "_law_prices" ["_law_draws", "_law_many"] 3 [] (f__law_prices K Z) :=
  let ⟨_, _, hm, F⟩ := X.F__law_prices; MD.of F hm (fun_m F sc__law_prices (b__law_prices X _)) (fun _ _ _ _ _ _ us hl => match us, hl with | [_, _], _ => rfl)
abbrev s__law_rows_right : Stmt := top 52
theorem sc__law_rows_right : FnScope ["_law_draws", "_law_many", "_law_rows", "_law_given", "_law_was", "_law_due", "_law_first", "_law_at", "_law_other", "_law_bad", "_law_behind", "_law_none"] ["_law_draws", "_law_many"] (defScope s__law_rows_right) := ⟨rfl, rfl, rfl, by decide +kernel, rfl, by decide +kernel, by decide +kernel⟩
noncomputable def g__law_rows_right (K : PySem.W.Frag) (Z : Ads) : Ms := (msSeq (msAsg (mCall (f__law_amounts K Z) [] 3 (mCons (mVar 0) (mCons (mVar 1) (mCons (mCall (f__law_draw K Z) [] 2 (mCons (mVar 0) (mCons (mC (.int 9)) (mNil)))) (mNil))))) (mgName 2)) (msSeq (msAsg (mCall (f__law_handed K Z) [] 2 (mCons (mVar 0) (mCons (mVar 2) (mNil)))) (mgName 3)) (msSeq (msPar 4 5 (mCons (mN oRepr (mCons (mVar 3) (mNil))) (mCons (mCallP (f__law_least K Z) [] 1 (mCons (mVar 2) (mNil))) (mNil)))) (msSeq (msAsg (mCall (f__law_told_rows K Z) [] 1 (mCons (mVar 3) (mNil))) (mgName 6)) (msSeq (msIf (mOrT (mNotT (mTru (mCallP (f__law_same K Z 8) [] 2 (mCons (mVar 6) (mCons (mLst (mCons (mC (.str "told")) (mCons (mVar 5) (mNil)))) (mNil)))))) (mBl (m2 oNe (mN oRepr (mCons (mVar 3) (mNil))) (mVar 4)))) ((msRet (mC (.bl false)))) (msNext)) (msSeq (msDrop (mApp (mIx (mVar 6) (mC (.int 1))) (mTup (mCons (mC (.int 7)) (mCons (mC (.int 7)) (mNil)))))) (msSeq (msIf (mNotT (mTru (mCallP (f__law_same K Z 8) [] 2 (mCons (mCallK (f__law_told_rows K Z) [0] 1 1 (mCons (mVar 3) (mNil))) (mCons (mLst (mCons (mC (.str "told")) (mCons (mVar 5) (mNil)))) (mNil)))))) ((msRet (mC (.bl false)))) (msNext)) (msSeq (msAsg (mCall (f__law_draw K Z) [] 2 (mCons (mVar 0) (mCons (m2 oPlus (mN oLen (mCons (mVar 2) (mNil))) (mC (.int 1))) (mNil)))) (mgName 7)) (msSeq (msAsg (mCall (f__law_amount K Z) [] 2 (mCons (mVar 0) (mCons (m2 oPlus (m2 oMod (mVar 1) (mC (.int 3))) (mC (.int 1))) (mNil)))) (mgName 8)) (msSeq (msAsg (mIf (mAndT (mBl (m2 oGt (mVar 7) (mC (.int 0)))) (mBl (m2 oEq (mCall (f__law_draw K Z) [] 2 (mCons (mVar 0) (mCons (mC (.int 3)) (mNil)))) (mC (.int 0))))) (mVar 8) (mCall (f__law_odd K Z) [] 1 (mCons (mVar 0) (mNil)))) (mgName 9)) (msSeq (msAsg (m2 oPlus (mSl (mVar 2) (moSome (mVar 7)) (moNone)) (m2 oTimesX (mLst (mCons (mC (.non)) (mNil))) (mCall (f__law_draw K Z) [] 2 (mCons (mVar 0) (mCons (mC (.int 2)) (mNil)))))) (mgName 10)) (msSeq (msIf (mNotT (mTru (mCallP (f__law_same K Z 8) [] 2 (mCons (mCall (f__law_told_rows K Z) [] 1 (mCons (m2 oPlus (m2 oPlus (mSl (mVar 2) (moNone) (moSome (mVar 7))) (mLst (mCons (mVar 9) (mNil)))) (mVar 10)) (mNil))) (mCons (mLst (mCons (mC (.str "refused")) (mCons (mVar 7) (mNil)))) (mNil)))))) ((msRet (mC (.bl false)))) (msNext)) (msSeq (msAsg (mCall (f__law_pick K Z) [] 2 (mCons (mVar 0) (mCons (mLst (mCons (mC (.non)) (mCons (mC (.int 5)) (mCons (mC (.bl true)) (mCons (mC (.str "ab")) (mCons (mC (.dk [] [])) (mCons (mD1 (.inl 0) (mTup (mCons (mC (.int 1)) (mNil)))) (mCons (m1 oNeg (mC (.int 1))) (mNil))))))))) (mNil)))) (mgName 11)) (msRet (mCallP (f__law_same K Z 8) [] 2 (mCons (mCall (f__law_told_rows K Z) [] 1 (mCons (mVar 11) (mNil))) (mCons (mLst (mCons (mC (.str "refused")) (mCons (mC (.int 0)) (mNil)))) (mNil))))))))))))))))))
noncomputable def f__law_rows_right (K : PySem.W.Frag) (Z : Ads) : Fm := runM 12 (g__law_rows_right K Z)
theorem b__law_rows_right (X : Fx P w K mg base Z) (f : Addr) (cdv : Value) (A : Around) (outer : List PySem.Env) (s : Shared) (H : Hp) (E : XK) (hr : RoomG 12 (A.deeper (envOfC "_law_rows_right" (defScope s__law_rows_right) s.heap.objs.size f cdv))) :
    MSs (cxOf (L2.CX P w) P w K mg base ["_law_draws", "_law_many", "_law_rows", "_law_given", "_law_was", "_law_due", "_law_first", "_law_at", "_law_other", "_law_bad", "_law_behind", "_law_none"] "_law_rows_right" (defScope s__law_rows_right) f cdv A outer s H E) (fun c d _ H' => E c d H') (defBody s__law_rows_right) (g__law_rows_right K Z) :=
  mss_cons (ms_set 2 sc__law_rows_right.nd (me_md (md__law_amounts X) hr.toRoom (by decide) (takes_of rfl rfl rfl rfl) (ma_cons (me_var 0) (ma_cons (me_var 1) (ma_cons (me_md (md__law_draw X) hr.toRoom (by decide) (takes_of rfl rfl rfl rfl) (ma_cons (me_var 0) (ma_cons (me_c ze_int) (ma_nil)))) (ma_nil)))))) (mss_cons (ms_set 3 sc__law_rows_right.nd (me_md (md__law_handed X) hr.toRoom (by decide) (takes_of rfl rfl rfl rfl) (ma_cons (me_var 0) (ma_cons (me_var 2) (ma_nil))))) (mss_cons (ms_par 4 5 rfl sc__law_rows_right.nd (ma_cons (me_callB (cr_repr hr.gd (hu64 hr.toRoom)) k_repr X.m_repr rfl (ma_cons (me_var 3) (ma_nil))) (ma_cons (me_pd (pd__law_least X) hr.toRoom (by decide) (takes_of rfl rfl rfl rfl) (ma_cons (me_var 2) (ma_nil))) (ma_nil)))) (mss_cons (ms_set 6 sc__law_rows_right.nd (me_md (md__law_told_rows X) hr.toRoom (by decide) (takes_of rfl rfl rfl rfl) (ma_cons (me_var 3) (ma_nil)))) (mss_cons (ms_if (MW.t (mw_or (mt_not (mt_tru (me_pd (pd__law_same X) hr.toRoom (by decide) (takes_of rfl rfl rfl rfl) (ma_cons (me_var 6) (ma_cons (me_lst (ma_cons (me_c ze_str) (ma_cons (me_var 5) (ma_nil)))) (ma_nil)))))) (mw_or1 (mt_cmp (op_neD (hu64 hr.toRoom)) k_ne (me_callB (cr_repr hr.gd (hu64 hr.toRoom)) k_repr X.m_repr rfl (ma_cons (me_var 3) (ma_nil))) (me_var 4))))) (mss_one (ms_ret (me_c ze_bl))) (mss_nil)) (mss_cons (ms_expr (me_append (me_ix (me_var 6) (me_c ze_int)) (me_tup (ma_cons (me_c ze_int) (ma_cons (me_c ze_int) (ma_nil)))))) (mss_cons (ms_if (mt_not (mt_tru (me_pd (pd__law_same X) hr.toRoom (by decide) (takes_of rfl rfl rfl rfl) (ma_cons (me_mdK (mk__law_told_rows_0 X) hr.toRoom (by decide) (takes_of rfl rfl rfl rfl) (mk_cons (me_var 3) (mk_nil))) (ma_cons (me_lst (ma_cons (me_c ze_str) (ma_cons (me_var 5) (ma_nil)))) (ma_nil)))))) (mss_one (ms_ret (me_c ze_bl))) (mss_nil)) (mss_cons (ms_set 7 sc__law_rows_right.nd (me_md (md__law_draw X) hr.toRoom (by decide) (takes_of rfl rfl rfl rfl) (ma_cons (me_var 0) (ma_cons (me_op op_plus k_plus (me_callB call_len k_len X.m_len rfl (ma_cons (me_var 2) (ma_nil))) (me_c ze_int)) (ma_nil))))) (mss_cons (ms_set 8 sc__law_rows_right.nd (me_md (md__law_amount X) hr.toRoom (by decide) (takes_of rfl rfl rfl rfl) (ma_cons (me_var 0) (ma_cons (me_op op_plus k_plus (me_op op_mod k_mod (me_var 1) (me_c ze_int)) (me_c ze_int)) (ma_nil))))) (mss_cons (ms_set 9 sc__law_rows_right.nd (me_ifExp (MW.t (mw_and (mt_cmp op_gt k_gt (me_var 7) (me_c ze_int)) (mw_and1 (mt_cmp (op_eqD (hu64 hr.toRoom)) k_eq (me_md (md__law_draw X) hr.toRoom (by decide) (takes_of rfl rfl rfl rfl) (ma_cons (me_var 0) (ma_cons (me_c ze_int) (ma_nil)))) (me_c ze_int))))) (me_var 8) (me_md (md__law_odd X) hr.toRoom (by decide) (takes_of rfl rfl rfl rfl) (ma_cons (me_var 0) (ma_nil))))) (mss_cons (ms_set 10 sc__law_rows_right.nd (me_op op_plus k_plus (me_slice (me_var 2) (mo_some (me_var 7)) (mo_none)) (me_op op_timesX k_timesX (me_lst (ma_cons (me_c ze_non) (ma_nil))) (me_md (md__law_draw X) hr.toRoom (by decide) (takes_of rfl rfl rfl rfl) (ma_cons (me_var 0) (ma_cons (me_c ze_int) (ma_nil))))))) (mss_cons (ms_if (mt_not (mt_tru (me_pd (pd__law_same X) hr.toRoom (by decide) (takes_of rfl rfl rfl rfl) (ma_cons (me_md (md__law_told_rows X) hr.toRoom (by decide) (takes_of rfl rfl rfl rfl) (ma_cons (me_op op_plus k_plus (me_op op_plus k_plus (me_slice (me_var 2) (mo_none) (mo_some (me_var 7))) (me_lst (ma_cons (me_var 9) (ma_nil)))) (me_var 10)) (ma_nil))) (ma_cons (me_lst (ma_cons (me_c ze_str) (ma_cons (me_var 7) (ma_nil)))) (ma_nil)))))) (mss_one (ms_ret (me_c ze_bl))) (mss_nil)) (mss_cons (ms_set 11 sc__law_rows_right.nd (me_md (md__law_pick X) hr.toRoom (by decide) (takes_of rfl rfl rfl rfl) (ma_cons (me_var 0) (ma_cons (me_lst (ma_cons (me_c ze_non) (ma_cons (me_c ze_int) (ma_cons (me_c ze_bl) (ma_cons (me_c ze_str) (ma_cons (me_dnew) (ma_cons (me_d1i (me_tup (ma_cons (me_c ze_int) (ma_nil)))) (ma_cons (me_un un_neg k_neg (me_c ze_int)) (ma_nil))))))))) (ma_nil))))) (mss_one (ms_ret (me_pd (pd__law_same X) hr.toRoom (by decide) (takes_of rfl rfl rfl rfl) (ma_cons (me_md (md__law_told_rows X) hr.toRoom (by decide) (takes_of rfl rfl rfl rfl) (ma_cons (me_var 11) (ma_nil))) (ma_cons (me_lst (ma_cons (me_c ze_str) (ma_cons (me_c ze_int) (ma_nil)))) (ma_nil))))))))))))))))))
theorem mdg__law_rows_right (X : Fx P w K mg base Z) : MDG P w K mg base "_law_rows_right" ["_law_draws", "_law_many"] 13 [] (f__law_rows_right K Z) :=
  let ⟨_, _, hm, F⟩ := X.F__law_rows_right; MDG.of F hm (fun_mG F sc__law_rows_right (b__law_rows_right X _)) (fun _ _ _ _ _ _ us hl => match us, hl with | [_, _], _ => rfl)
abbrev s__law_costs_right : Stmt := top 53
theorem sc__law_costs_right : FnScope ["_law_draws", "_law_many", "_law_amount_here", "_law_prices_here", "_law_given", "_law_odd_here", "_law_some", "_law_bad"] ["_law_draws", "_law_many"] (defScope s__law_costs_right) := ⟨rfl, rfl, rfl, by decide +kernel, rfl, by decide +kernel, by decide +kernel⟩
noncomputable def g__law_costs_right (K : PySem.W.Frag) (Z : Ads) : Ms := (msSeq (msPar 2 3 (mCons (mCall (f__law_amount K Z) [] 2 (mCons (mVar 0) (mCons (mVar 1) (mNil)))) (mCons (mFz (mCall (f__law_prices K Z) [] 2 (mCons (mVar 0) (mCons (mVar 1) (mNil))))) (mNil)))) (msSeq (msAsg (mCall (f__law_handed K Z) [] 2 (mCons (mVar 0) (mCons (mLst (mCons (mVar 2) (mCons (mVar 3) (mNil)))) (mNil)))) (mgName 4)) (msSeq (msIf (mNotT (mTru (mCallP (f__law_same K Z 8) [] 2 (mCons (mCall (f__law_told_cost K Z) [] 2 (mCons (mIx (mVar 4) (mC (.int 0))) (mCons (mIx (mVar 4) (mC (.int 1))) (mNil)))) (mCons (mLst (mCons (mC (.str "told")) (mCons (mCallP (f__law_dot K Z) [] 2 (mCons (mVar 2) (mCons (mVar 3) (mNil)))) (mNil)))) (mNil)))))) ((msRet (mC (.bl false)))) (msNext)) (msSeq (msAsg (mCall (f__law_odd K Z) [] 1 (mCons (mVar 0) (mNil))) (mgName 5)) (msSeq (msIf (mNotT (mTru (mCallP (f__law_same K Z 8) [] 2 (mCons (mCall (f__law_told_cost K Z) [] 2 (mCons (mVar 5) (mCons (mCall (f__law_pick K Z) [] 2 (mCons (mVar 0) (mCons (mLst (mCons (mVar 3) (mCons (mC (.non)) (mCons (mVar 5) (mNil))))) (mNil)))) (mNil)))) (mCons (mLst (mCons (mC (.str "amount")) (mCons (mVar 5) (mNil)))) (mNil)))))) ((msRet (mC (.bl false)))) (msNext)) (msSeq (msAsg (mLst (mCons (mCall (f__law_odd K Z) [] 1 (mCons (mVar 0) (mNil))) (mCons (m2 oTimesX (mLst (mCons (mC (.int 0)) (mNil))) (mVar 1)) (mCons (m2 oTimesX (mTup (mCons (mC (.int 0)) (mNil))) (mVar 1)) (mCons (m2 oPlus (mVar 3) (mLst (mCons (mC (.int 1)) (mNil)))) (mCons (mSl (mVar 3) (moSome (mC (.int 1))) (moNone)) (mCons (m2 oPlus (mSl (mVar 3) (moNone) (moSome (m1 oNeg (mC (.int 1))))) (mLst (mCons (m1 oNeg (mC (.int 1))) (mNil)))) (mNil)))))))) (mgName 6)) (msSeq (msAsg (mCall (f__law_pick K Z) [] 2 (mCons (mVar 0) (mCons (mVar 6) (mNil)))) (mgName 7)) (msRet (mCallP (f__law_same K Z 8) [] 2 (mCons (mCallK (f__law_told_cost K Z) [1, 0] 2 2 (mCons (mVar 7) (mCons (mIx (mVar 4) (mC (.int 0))) (mNil)))) (mCons (mLst (mCons (mC (.str "prices")) (mCons (mVar 7) (mNil)))) (mNil))))))))))))
noncomputable def f__law_costs_right (K : PySem.W.Frag) (Z : Ads) : Fm := runM 8 (g__law_costs_right K Z)
theorem b__law_costs_right (X : Fx P w K mg base Z) (f : Addr) (cdv : Value) (A : Around) (outer : List PySem.Env) (s : Shared) (H : Hp) (E : XK) (hr : Room 12 (A.deeper (envOfC "_law_costs_right" (defScope s__law_costs_right) s.heap.objs.size f cdv))) :
    MSs (cxOf (L2.CX P w) P w K mg base ["_law_draws", "_law_many", "_law_amount_here", "_law_prices_here", "_law_given", "_law_odd_here", "_law_some", "_law_bad"] "_law_costs_right" (defScope s__law_costs_right) f cdv A outer s H E) (fun c d _ H' => E c d H') (defBody s__law_costs_right) (g__law_costs_right K Z) :=
  mss_cons (ms_par 2 3 rfl sc__law_costs_right.nd (ma_cons (me_md (md__law_amount X) hr (by decide) (takes_of rfl rfl rfl rfl) (ma_cons (me_var 0) (ma_cons (me_var 1) (ma_nil)))) (ma_cons (me_fz (me_md (md__law_prices X) hr (by decide) (takes_of rfl rfl rfl rfl) (ma_cons (me_var 0) (ma_cons (me_var 1) (ma_nil))))) (ma_nil)))) (mss_cons (ms_set 4 sc__law_costs_right.nd (me_md (md__law_handed X) hr (by decide) (takes_of rfl rfl rfl rfl) (ma_cons (me_var 0) (ma_cons (me_lst (ma_cons (me_var 2) (ma_cons (me_var 3) (ma_nil)))) (ma_nil))))) (mss_cons (ms_if (mt_not (mt_tru (me_pd (pd__law_same X) hr (by decide) (takes_of rfl rfl rfl rfl) (ma_cons (me_md (md__law_told_cost X) hr (by decide) (takes_of rfl rfl rfl rfl) (ma_cons (me_ix (me_var 4) (me_c ze_int)) (ma_cons (me_ix (me_var 4) (me_c ze_int)) (ma_nil)))) (ma_cons (me_lst (ma_cons (me_c ze_str) (ma_cons (me_pd (pd__law_dot X) hr (by decide) (takes_of rfl rfl rfl rfl) (ma_cons (me_var 2) (ma_cons (me_var 3) (ma_nil)))) (ma_nil)))) (ma_nil)))))) (mss_one (ms_ret (me_c ze_bl))) (mss_nil)) (mss_cons (ms_set 5 sc__law_costs_right.nd (me_md (md__law_odd X) hr (by decide) (takes_of rfl rfl rfl rfl) (ma_cons (me_var 0) (ma_nil)))) (mss_cons (ms_if (mt_not (mt_tru (me_pd (pd__law_same X) hr (by decide) (takes_of rfl rfl rfl rfl) (ma_cons (me_md (md__law_told_cost X) hr (by decide) (takes_of rfl rfl rfl rfl) (ma_cons (me_var 5) (ma_cons (me_md (md__law_pick X) hr (by decide) (takes_of rfl rfl rfl rfl) (ma_cons (me_var 0) (ma_cons (me_lst (ma_cons (me_var 3) (ma_cons (me_c ze_non) (ma_cons (me_var 5) (ma_nil))))) (ma_nil)))) (ma_nil)))) (ma_cons (me_lst (ma_cons (me_c ze_str) (ma_cons (me_var 5) (ma_nil)))) (ma_nil)))))) (mss_one (ms_ret (me_c ze_bl))) (mss_nil)) (mss_cons (ms_set 6 sc__law_costs_right.nd (me_lst (ma_cons (me_md (md__law_odd X) hr (by decide) (takes_of rfl rfl rfl rfl) (ma_cons (me_var 0) (ma_nil))) (ma_cons (me_op op_timesX k_timesX (me_lst (ma_cons (me_c ze_int) (ma_nil))) (me_var 1)) (ma_cons (me_op op_timesX k_timesX (me_tup (ma_cons (me_c ze_int) (ma_nil))) (me_var 1)) (ma_cons (me_op op_plus k_plus (me_var 3) (me_lst (ma_cons (me_c ze_int) (ma_nil)))) (ma_cons (me_slice (me_var 3) (mo_some (me_c ze_int)) (mo_none)) (ma_cons (me_op op_plus k_plus (me_slice (me_var 3) (mo_none) (mo_some (me_un un_neg k_neg (me_c ze_int)))) (me_lst (ma_cons (me_un un_neg k_neg (me_c ze_int)) (ma_nil)))) (ma_nil))))))))) (mss_cons (ms_set 7 sc__law_costs_right.nd (me_md (md__law_pick X) hr (by decide) (takes_of rfl rfl rfl rfl) (ma_cons (me_var 0) (ma_cons (me_var 6) (ma_nil))))) (mss_one (ms_ret (me_pd (pd__law_same X) hr (by decide) (takes_of rfl rfl rfl rfl) (ma_cons (me_mdK (mk__law_told_cost_1_0 X) hr (by decide) (takes_of rfl rfl rfl rfl) (mk_cons (me_var 7) (mk_cons (me_ix (me_var 4) (me_c ze_int)) (mk_nil)))) (ma_cons (me_lst (ma_cons (me_c ze_str) (ma_cons (me_var 7) (ma_nil)))) (ma_nil))))))))))))
theorem md__law_costs_right (X : Fx P w K mg base Z) : MD P w K mg base "_law_costs_right" ["_law_draws", "_law_many"] 13 [] (f__law_costs_right K Z) :=
  let ⟨_, _, hm, F⟩ := X.F__law_costs_right; MD.of F hm (fun_m F sc__law_costs_right (b__law_costs_right X _)) (fun _ _ _ _ _ _ us hl => match us, hl with | [_, _], _ => rfl)
abbrev s_law : Stmt := top 54
theorem sc_law : FnScope ["_law_script", "_law_turn", "_law_draws", "_law_many", "_law_k"] ["_law_script"] (defScope s_law) := ⟨rfl, rfl, rfl, by decide +kernel, rfl, by decide +kernel, by decide +kernel⟩
noncomputable def g_law (K : PySem.W.Frag) (Z : Ads) : Ms := (msSeq (msFor (miO ints1 (mCons (m2 oPlus (mC (.int 5)) (mN oMin2 (mCons (mN oLen (mCons (mVar 0) (mNil))) (mCons (mC (.int 3)) (mNil))))) (mNil))) (mgName 1) ((msSeq (msAsg (mCall (f__law_source K Z) [] 2 (mCons (mVar 0) (mCons (mVar 1) (mNil)))) (mgName 2)) (msSeq (msAsg (m2 oPlus (mC (.int 1)) (mCall (f__law_draw K Z) [] 2 (mCons (mVar 2) (mCons (mC (.int 3)) (mNil))))) (mgName 3)) (msFor (miO ints1 (mCons (mC (.int 2)) (mNil))) (mgName 4) ((msIf (mOrT (mNotT (mTru (mCall (f__law_rows_right K Z) [] 2 (mCons (mVar 2) (mCons (mVar 3) (mNil)))))) (mNotT (mTru (mCall (f__law_costs_right K Z) [] 2 (mCons (mVar 2) (mCons (mVar 3) (mNil))))))) ((msRet (mC (.bl false)))) (msNext)))))))) (msRet (mC (.bl true))))
noncomputable def f_law (K : PySem.W.Frag) (Z : Ads) : Fm := runM 5 (g_law K Z)
theorem b_law (X : Fx P w K mg base Z) (f : Addr) (cdv : Value) (A : Around) (outer : List PySem.Env) (s : Shared) (H : Hp) (E : XK) (hr : RoomG 13 (A.deeper (envOfC "law" (defScope s_law) s.heap.objs.size f cdv))) :
    MSs (cxOf (L2.CX P w) P w K mg base ["_law_script", "_law_turn", "_law_draws", "_law_many", "_law_k"] "law" (defScope s_law) f cdv A outer s H E) (fun c d _ H' => E c d H') (defBody s_law) (g_law K Z) :=
  mss_cons (ms_for PassesOwn.leaving rfl (mi_rg1 X.m_range (ma_cons (me_op op_plus k_plus (me_c ze_int) (me_callB (call_min2 rfl) k_min2 X.m_min rfl (ma_cons (me_callB call_len k_len X.m_len rfl (ma_cons (me_var 0) (ma_nil))) (ma_cons (me_c ze_int) (ma_nil))))) (ma_nil))) (mg_name 1 sc_law.nd) (mss_cons (ms_set 2 sc_law.nd (me_md (md__law_source X) hr.toRoom (by decide) (takes_of rfl rfl rfl rfl) (ma_cons (me_var 0) (ma_cons (me_var 1) (ma_nil))))) (mss_cons (ms_set 3 sc_law.nd (me_op op_plus k_plus (me_c ze_int) (me_md (md__law_draw X) hr.toRoom (by decide) (takes_of rfl rfl rfl rfl) (ma_cons (me_var 2) (ma_cons (me_c ze_int) (ma_nil)))))) (mss_one (ms_for PassesOwn.leaving rfl (mi_rg1 X.m_range (ma_cons (me_c ze_int) (ma_nil))) (mg_name 4 sc_law.nd) (mss_one (ms_if (MW.t (mw_or (mt_not (mt_tru (me_mdG (mdg__law_rows_right X) hr (by decide) (takes_of rfl rfl rfl rfl) (ma_cons (me_var 2) (ma_cons (me_var 3) (ma_nil)))))) (mw_or1 (mt_not (mt_tru (me_md (md__law_costs_right X) hr.toRoom (by decide) (takes_of rfl rfl rfl rfl) (ma_cons (me_var 2) (ma_cons (me_var 3) (ma_nil))))))))) (mss_one (ms_ret (me_c ze_bl))) (mss_nil)))))))) (mss_one (ms_ret (me_c ze_bl)))
theorem mdg_law (X : Fx P w K mg base Z) : MDG P w K mg base "law" ["_law_script"] 14 [] (f_law K Z) :=
  let ⟨_, _, hm, F⟩ := X.F_law; MDG.of F hm (fun_mG F sc_law (b_law X _)) (fun _ _ _ _ _ _ us hl => match us, hl with | [_], _ => rfl)
end
end K1
set_option Elab.async false
set_option linter.all false
set_option maxRecDepth 100000
set_option maxHeartbeats 400000
/-! Rp: the texts of lists of rows of ints -/
namespace Zy
open PySem PySem.Spec PyProof.Rows L2
def fine (x : Str) (n : Nat) : Prop := PyData.strOk x = true ∧ x.length ≤ n
theorem strOk_iff {x : Str} : PyData.strOk x = true ↔ ∀ c ∈ x.cps, c < 0x110000 := by
  unfold PyData.strOk
  rw [Array.all_eq_true_iff_forall_mem]
  simp
theorem fine_app {a b : Str} {n m : Nat} (h : fine a n) (k : fine b m) : fine (a ++ b) (n + m) := by
  have e : (a ++ b).cps = a.cps ++ b.cps := rfl
  refine ⟨strOk_iff.mpr fun c hc => ?_, ?_⟩
  · rw [e, Array.mem_append] at hc
    rcases hc with hc | hc
    · exact strOk_iff.mp h.1 c hc
    · exact strOk_iff.mp k.1 c hc
  · show (a ++ b).cps.size ≤ _
    rw [e, Array.size_append]
    have := h.2
    have := k.2
    unfold Str.length at *
    omega
theorem fine.mono {a : Str} {n m : Nat} (h : fine a n) (k : n ≤ m) : fine a m := ⟨h.1, Nat.le_trans h.2 k⟩
theorem ok_string (s : String) : PyData.strOk (Str.ofString s) = true := by
  refine strOk_iff.mpr fun c hc => ?_
  rw [Str.ofString_eq_toList] at hc
  have hc' : c ∈ s.toList.map Char.toNat := by simpa using hc
  obtain ⟨d, _, rfl⟩ := List.mem_map.mp hc'
  have := d.valid
  rcases this with h | h
  · show d.val.toNat < _; have : d.val.toNat < 0xd800 := h; omega
  · exact h.2
theorem len_string (s : String) : (Str.ofString s).length = s.length := by
  rw [Str.ofString_eq_toList]
  show (s.toList.map Char.toNat).toArray.size = _
  rw [List.size_toArray, List.length_map]; exact String.length_toList
theorem fine_lit (s : String) : fine (Str.ofString s) s.length := ⟨ok_string s, Nat.le_of_eq (len_string s)⟩
theorem fine_int {i : Int} {k : Nat} (hk : 0 < k) (h : i.natAbs < 10 ^ k) : fine (Str.ofString (toString i)) (k + 1) :=
  ⟨ok_string _, by rw [len_string]; exact int_text_length_le10 hk h⟩
theorem fine_join {n : Nat} : ∀ {ts : List Str}, (∀ t ∈ ts, fine t n) → fine (Str.join ", " ts) (ts.length * (n + 2))
  | [], _ => ⟨strOk_iff.mpr fun c hc => by simp [Str.join, Str.empty] at hc, Nat.zero_le _⟩
  | [x], h => (h x List.mem_cons_self).mono (by simp)
  | x :: y :: r, h => by
    have ih := fine_join (ts := y :: r) fun t ht => h t (List.mem_cons_of_mem _ ht)
    have e : Str.join ", " (x :: y :: r) = x ++ ", " ++ Str.join ", " (y :: r) := rfl
    rw [e]
    refine (fine_app (fine_app (h x List.mem_cons_self) (fine_lit ", ")) ih).mono ?_
    have e2 : ", ".length = 2 := rfl
    rw [e2, List.length_cons (as := y :: r), Nat.succ_mul]; omega
theorem fine_from {n : Nat} : ∀ {ts : List Str} {k a : Nat} {acc : Str}, fine acc a → (∀ t ∈ ts, fine t n) → fine (textFrom k acc ts) (a + ts.length * (n + 2))
  | [], k, a, acc, h, _ => h.mono (by omega)
  | t :: ts, k, a, acc, h, ht => by
    have hs : fine (Str.ofString (if k > 0 then ", " else "")) 2 := by
      split
      · exact fine_lit ", "
      · exact (fine_lit "").mono (by decide)
    have := fine_from (k := k + 1) (fine_app (fine_app h hs) (ht t List.mem_cons_self)) fun t h => ht t (List.mem_cons_of_mem _ h)
    refine fine.mono (n := a + 2 + n + ts.length * (n + 2)) this ?_
    rw [List.length_cons, Nat.succ_mul]; omega
theorem fine_list {n : Nat} {ts : List Str} (h : ∀ t ∈ ts, fine t n) : fine (listText ts) (ts.length * (n + 2) + 2) := by
  have := fine_app (fine_from (k := 0) (fine_lit "[") h) (fine_lit "]")
  refine fine.mono this ?_
  have e : "[".length = 1 := rfl
  have e2 : "]".length = 1 := rfl
  rw [e, e2]; omega
theorem fine_tup {n : Nat} {ts : List Str} (h : ∀ t ∈ ts, fine t n) : fine (tupleText ts) (ts.length * (n + 2) + 3) := by
  have hs : fine (Str.ofString (if (ts.length == 1) = true then ",)" else ")")) 2 := by
    split
    · exact fine_lit ",)"
    · exact (fine_lit ")").mono (by decide)
  have := fine_app (fine_app (fine_lit "(") (fine_join h)) hs
  refine fine.mono this ?_
  have e : "(".length = 1 := rfl
  rw [e]; omega
theorem shownAll_mem : ∀ {l : List PyData} {t : Str}, t ∈ PyData.shownAll l → ∃ d ∈ l, t = d.shown
  | [], t, h => by simp [PyData.shownAll] at h
  | d :: l, t, h => by
    rw [PyData.shownAll] at h
    rcases List.mem_cons.mp h with rfl | h
    · exact ⟨d, List.mem_cons_self, rfl⟩
    · obtain ⟨e, h1, h2⟩ := shownAll_mem h
      exact ⟨e, List.mem_cons_of_mem _ h1, h2⟩
theorem shownAll_len : ∀ l : List PyData, (PyData.shownAll l).length = l.length
  | [] => by simp [PyData.shownAll]
  | d :: l => by simp [PyData.shownAll, shownAll_len l]
/-- a list or a tuple of n things at most, each with a text of m signs at most -/
theorem fine_seq {d : PyData} {l : List PyData} {m : Nat} (hd : d = .list l ∨ d = .tuple l) (h : ∀ x ∈ l, fine x.shown m) : fine d.shown (l.length * (m + 2) + 3) := by
  have h' : ∀ t ∈ PyData.shownAll l, fine t m := fun t ht => by
    obtain ⟨x, hx, rfl⟩ := shownAll_mem ht
    exact h x hx
  rcases hd with rfl | rfl
  · have := fine_list h'
    rw [shownAll_len] at this
    rw [PyData.shown]
    exact this.mono (by omega)
  · have := fine_tup h'
    rw [shownAll_len] at this
    rw [PyData.shown]; exact this
theorem showAll_of : ∀ {l : List PyData}, (∀ x ∈ l, x.showable = true) → PyData.showableAll l = true
  | [], _ => by simp [PyData.showableAll]
  | x :: l, h => by
    rw [PyData.showableAll, h x List.mem_cons_self, showAll_of fun y hy => h y (List.mem_cons_of_mem _ hy)]; rfl
theorem dictAll_of : ∀ {l : List PyData}, (∀ x ∈ l, x.hasDict = false) → PyData.hasDictAll l = false
  | [], _ => by simp [PyData.hasDictAll]
  | x :: l, h => by
    rw [PyData.hasDictAll, h x List.mem_cons_self, dictAll_of fun y hy => h y (List.mem_cons_of_mem _ hy)]; rfl
theorem depAll_of {n : Nat} : ∀ {l : List PyData}, (∀ x ∈ l, x.depth ≤ n) → PyData.depthAll l ≤ n
  | [], _ => by simp [PyData.depthAll]
  | x :: l, h => by
    have := h x List.mem_cons_self
    have := depAll_of fun y hy => h y (List.mem_cons_of_mem _ hy)
    rw [PyData.depthAll]; omega
end Zy
set_option Elab.async false
set_option linter.all false
set_option maxRecDepth 100000
set_option maxHeartbeats 400000
namespace K1
open PySem PySem.Spec PyProof.Rows L2 Zy
section
variable {K : PySem.W.Frag} {Z : Ads}
theorem oEq_int (a b : Int) : oEq (.int a) (.int b) = some (.bl (decide (a = b))) := by
  show some (T.bl (PyData.eqv (.int a) (.int b))) = _
  congr 2
theorem pow_of {a b c : Int} (h : CPow a b) (e : a ^ b.toNat = c) : oPow (.int a) (.int b) = some (.int c) := by
  show (if CPow a b then some (gPow a b) else none) = _
  rw [if_pos h]; show some (T.int (a ^ b.toNat)) = _; rw [e]
theorem oTuple_l {l : List T} (h : l.length ≤ sizeLine) : oTuple [.lst l] = some (.tup l) := by simp [oTuple, seqT, szL, h]
theorem oTuple_t {l : List T} (h : l.length ≤ sizeLine) : oTuple [.tup l] = some (.tup l) := by simp [oTuple, seqT, szL, h]
theorem oList_l {l : List T} (h : l.length ≤ sizeLine) : oList [.lst l] = some (.lst l) := by simp [oList, seqT, szL, h]
theorem oList_t {l : List T} (h : l.length ≤ sizeLine) : oList [.tup l] = some (.lst l) := by simp [oList, seqT, szL, h]
theorem ints1_n {n : Nat} (h : n ≤ 1000000) : Zy.ints1 [.int (n : Nat)] = some ((List.range n).map fun i => T.int (i : Nat)) := by
  simp only [Zy.ints1]
  have h1 : ((n : Nat) : Int) < 2 ^ 62 := Int.lt_of_le_of_lt (Int.ofNat_le.mpr h) (by decide)
  have h2 : -(2 ^ 62) ≤ ((n : Nat) : Int) := Int.le_trans (by decide) (Int.natCast_nonneg n)
  rw [if_pos ⟨h1, h2⟩, Int.toNat_natCast]
theorem mLc_ev {gi : Sw} {tg : Mg} {gt : Sb} {ge : Sx} {vs : List Nat} {ρ : En} {μ μ1 μ2 : Mu} {l : List D} {c : Ck} {r : List T} (h1 : gi ρ μ = .ok (l, c) μ1) (h2 : l.length ≤ sizeLine) (h3 : compM c tg gt ge (wipeE ρ vs) l [] μ1 = .ok (r.map D.t) μ2) : mLc gi tg gt ge vs ρ μ = .ok (.t (.lst r)) μ2 := by
  unfold mLc
  rw [h1]
  show (if l.length ≤ sizeLine then (compM c tg gt ge (wipeE ρ vs) l [] μ1).bind fun r μ2 => Sr.of ((unT r).map fun l => D.t (.lst l)) μ2 else .bad) = _
  rw [if_pos h2, h3]
  show Sr.of ((unT (r.map D.t)).map fun l => D.t (.lst l)) μ2 = _
  rw [unT_of]; rfl
theorem mLcR_ev {gi : Sw} {tg : Mg} {gt : Sb} {ge : Sx} {vs : List Nat} {ρ : En} {μ μ1 μ2 : Mu} {l r : List D} {c : Ck} (h1 : gi ρ μ = .ok (l, c) μ1) (h2 : l.length ≤ sizeLine) (h3 : compM c tg gt ge (wipeE ρ vs) l [] μ1 = .ok r μ2) : mLcR gi tg gt ge vs ρ μ = .ok (.r μ2.length) (μ2 ++ [.lst r]) := by
  unfold mLcR
  rw [h1]
  show (if l.length ≤ sizeLine then (compM c tg gt ge (wipeE ρ vs) l [] μ1).bind fun r μ2 => Sr.ok (D.r μ2.length) (μ2 ++ [MO.lst r]) else .bad) = _
  rw [if_pos h2, h3]; rfl
theorem mApp_ev {go ga : Sx} {ρ : En} {μ μ1 μ2 : Mu} {i : Nat} {l0 l : List D} {y : D} (h1 : go ρ μ = .ok (.r i) μ1) (h2 : μ1[i]? = some (.lst l0)) (h3 : ga ρ μ1 = .ok y μ2) (h4 : μ2[i]? = some (.lst l)) (h5 : l.length < sizeLine) : mApp go ga ρ μ = .ok (.t .non) (μ2.set i (.lst (l ++ [y]))) := by
  unfold mApp
  rw [h1]
  show (match μ1[i]? with
    | some (MO.lst _) => (ga ρ μ1).bind fun y μ2 => (match μ2[i]? with
      | some (MO.lst l) => if l.length < sizeLine then Sr.ok (D.t .non) (μ2.set i (.lst (l ++ [y]))) else .bad
      | _ => .bad)
    | _ => .bad) = _
  rw [h2]
  show ((ga ρ μ1).bind fun y μ2 => (match μ2[i]? with
      | some (MO.lst l) => if l.length < sizeLine then Sr.ok (D.t .non) (μ2.set i (.lst (l ++ [y]))) else .bad
      | _ => .bad)) = _
  rw [h3]
  show (match μ2[i]? with
      | some (MO.lst l) => if l.length < sizeLine then Sr.ok (D.t .non) (μ2.set i (.lst (l ++ [y]))) else .bad
      | _ => .bad) = _
  rw [h4]
  show (if l.length < sizeLine then Sr.ok (D.t .non) (μ2.set i (.lst (l ++ [y]))) else .bad) = _
  rw [if_pos h5]
theorem miO_ev {f : List T → Option (List T)} {gs : Sa} {ρ : En} {μ μ1 : Mu} {ts l : List T} (h1 : gs ρ μ = .ok (ts.map D.t) μ1) (h2 : f ts = some l) : miO f gs ρ μ = .ok (l.map D.t, none) μ1 := by
  unfold miO
  rw [h1]
  show Sr.of ((unT (ts.map D.t)).bind fun ts => (f ts).map fun l => (l.map D.t, none)) μ1 = _
  rw [unT_of]
  show Sr.of ((f ts).map fun l => (l.map D.t, none)) μ1 = _
  rw [h2]; rfl
theorem miSeq_ev {g : Sx} {ρ : En} {μ μ1 : Mu} {t : T} {l : List T} (h1 : g ρ μ = .ok (.t t) μ1) (h2 : itmT t = some l) : miSeq g ρ μ = .ok (l.map D.t, none) μ1 := by
  unfold miSeq
  rw [h1]
  show Sr.of ((itmT t).map fun l => (l.map D.t, none)) μ1 = _
  rw [h2]; rfl
theorem runM_ev {n : Nat} {g : Ms} {ds : List D} {μ : Mu} {ρ : En} {o : Option Mo} {r : Sr D} (hρ : ds.map some ++ List.replicate (n - ds.length) none = ρ) (hg : g ρ μ = o) (hr : outM o = r) : runM n g ds μ = r := by
  subst hρ hg hr; rfl
theorem le_size {n : Nat} (h : n ≤ 1000000) : n ≤ sizeLine := Nat.le_trans h (by decide)
theorem sq1 (l : List T) : seqT (.lst l) = some l := rfl
theorem sq2 (l : List T) : seqT (.tup l) = some l := rfl
theorem ln1 (l : List T) : lenT (.lst l) = some l.length := rfl
theorem ln2 (l : List T) : lenT (.tup l) = some l.length := rfl
theorem tr1 (b : Bool) : truT (.bl b) = some b := rfl
theorem tr2 (i : Int) : truT (.int i) = some (i != 0) := rfl
def callM (f : Fm) (dts : List T) (n : Nat) (ds : List D) (μ1 : Mu) : Sr D := mCall f dts n (fun _ μ => .ok ds μ) [] μ1
theorem mCall_eq (f : Fm) (dts : List T) (n : Nat) (gs : Sa) (ρ : En) (μ : Mu) : mCall f dts n gs ρ μ = (gs ρ μ).bind (callM f dts n) := id rfl
/-! ### calls with one thing of the store -/
theorem call1 {f : Fm} {gs : Sa} {ρ : En} {μ μ1 : Mu} {i n : Nat} {ts : List T} {m m' : MO} {g : Mu} {r : T} (hg : gs ρ μ = .ok (.r i :: ts.map D.t) μ1) (hm : μ1[i]? = some m) (hp : purM m = true) (hp' : purM m' = true) (hn : ts.length + 1 = n) (hf : f (.r 0 :: ts.map D.t) [m] = .ok (.t r) (m' :: g)) :
    mCall f [] n gs ρ μ = .ok (.t r) (μ1.set i m') := by
  have h1 : (ts.map D.t).filterMap rOf = [] := by
    induction ts generalizing n with
    | nil => rfl
    | cons t l ih => simp [rOf]
  have hr : refs (D.r i :: ts.map D.t) = [i] := by
    unfold refs
    rw [List.filterMap_cons]
    show ddp (i :: (ts.map D.t).filterMap rOf) = [i]
    rw [h1]; rfl
  have hs : sub μ1 [i] = some [m] := by
    unfold sub
    rw [hm]
    show (if purM m = true then (sub μ1 []).map (m :: ·) else none) = _
    rw [if_pos hp]; rfl
  have hren : (D.r i :: ts.map D.t).map (ren [i]) ++ ([] : List T).map D.t = D.r 0 :: ts.map D.t := by
    have h2 : ts.map (ren [i] ∘ D.t) = ts.map D.t := List.map_congr_left fun t _ => rfl
    simp [ren, h2]
  unfold mCall
  rw [hg]
  show (if (D.r i :: ts.map D.t).length + ([] : List T).length = n then _ else Sr.bad) = _
  rw [if_pos (by simpa using hn), hr, hs]
  show (match f ((D.r i :: ts.map D.t).map (ren [i]) ++ ([] : List T).map D.t) [m] with
    | .bad => Sr.bad
    | .ok d μ' => backM μ1 [i] d μ'
    | .er e μ' => if [i].length ≤ μ'.length ∧ allP (μ'.take [i].length) = true then .er e (put μ1 [i] (μ'.take [i].length)) else .bad) = _
  rw [hren, hf]
  show backM μ1 [i] (.t r) (m' :: g) = _
  unfold backM
  rw [if_pos ⟨by simp, by simp [allP, hp']⟩]
  simp [put]
/-! ### the draws -/
structure DS where
  a : Int
  b : Int
  c : Int
abbrev dst (s : DS) : MO := .lst [.t (.int s.a), .t (.int s.b), .t (.int s.c)]
/-- m draws may still come -/
structure DV (m : Nat) (s : DS) : Prop where
  a0 : 0 ≤ s.a
  b0 : 0 ≤ s.b
  b1 : s.b < 2147483629
  c0 : 0 ≤ s.c
  c1 : s.c + m ≤ 1000000
theorem DV.mono {m n : Nat} {s : DS} (h : DV n s) (hm : m ≤ n) : DV m s := ⟨h.a0, h.b0, h.b1, h.c0, by have := h.c1; omega⟩
theorem dst_pur (s : DS) : purM (dst s) = true := rfl
theorem divW {a n : Int} (hn : 0 < n) (hn2 : n < 2 ^ 64) : CDivW a n := ⟨hn, by
  have : n.natAbs.log2 < 64 := (Nat.log2_lt (by omega)).mpr (by omega)
  omega⟩
theorem draw_big {a b c n : Int} (ha : 0 < a) (hn : 0 < n) (hn2 : n < 2 ^ 64) : f__law_draw K Z [.r 0, .t (.int n)] [dst ⟨a, b, c⟩] = .ok (.t (.int (a % n))) [dst ⟨a / n, b, c⟩] := by
  have hd : CDivW a n := divW hn hn2
  refine runM_ev (ρ := [some (.r 0), some (.t (.int n)), none, none]) rfl (by simp [g__law_draw, outM, ap_mP, ap_mC, ap_mVar, ap_m1, ap_m2, ap_mN, ap_mIx, ap_mNil, ap_mCons, ap_mLst, ap_mLstR, ap_mTup, ap_mTru, ap_mBl, ap_mAndT, ap_mOrT, ap_mNotT, ap_mIf, ap_mAndV, ap_mOrV, ap_mNotV, ap_moNone, ap_moSome, ap_mSl, ap_mgName, ap_mgNil, ap_mgCons, ap_mgTup, ap_mgSub, ap_mYes, ap_msNext, ap_msSeq, ap_msRet, ap_msRetF, ap_msRetN, ap_msIf, ap_msAsg, ap_msBrk, ap_msCnt, ap_msDrop, ap_msFz, ap_mCallP, ap_mErrF, ap_mFz, ap_mD1, ap_msBad, ap_msPar, mCall_eq, sb_ok, sb_er, sl_ok, sl_er, so_ok, sn_ok, itS, vw, vws, vwM, unT, sq1, sq2, ln1, ln2, tr1, tr2, oEq_int, oI, blD, Zy.intD, frz, szB, atI, ixN, oInt, ha, hn, hd]; rfl) rfl
theorem draw_small {a b c n : Int} (ha : ¬ 0 < a) (hn : 0 < n) (hb : 0 ≤ b) (hb2 : b < 2147483629) (hc : 0 ≤ c) (hc2 : c ≤ 999999) :
    ∃ v, f__law_draw K Z [.r 0, .t (.int n)] [dst ⟨a, b, c⟩] = .ok (.t (.int (v % n))) [dst ⟨a, b, c + 1⟩] := by
  have h1 : CMul 7919 (c + 1) ∨ CMulW 7919 (c + 1) := .inl (.inl ⟨by decide, by decide⟩)
  have h2 : CPow (b + 7919 * (c + 1)) 5 := ⟨by decide, by decide, by omega⟩
  have h3 : ∀ x : Int, CMul (x % 2147483647 + (c + 1)) 40692 ∨ CMulW (x % 2147483647 + (c + 1)) 40692 := fun x => .inl (.inr ⟨by decide, by decide⟩)
  have h4 : ∀ x : Int, CDivW x 16 := fun x => divW (by decide) (by decide)
  exact ⟨_, runM_ev (ρ := [some (.r 0), some (.t (.int n)), none, none]) rfl (by simp [g__law_draw, outM, ap_mP, ap_mC, ap_mVar, ap_m1, ap_m2, ap_mN, ap_mIx, ap_mNil, ap_mCons, ap_mLst, ap_mLstR, ap_mTup, ap_mTru, ap_mBl, ap_mAndT, ap_mOrT, ap_mNotT, ap_mIf, ap_mAndV, ap_mOrV, ap_mNotV, ap_moNone, ap_moSome, ap_mSl, ap_mgName, ap_mgNil, ap_mgCons, ap_mgTup, ap_mgSub, ap_mYes, ap_msNext, ap_msSeq, ap_msRet, ap_msRetF, ap_msRetN, ap_msIf, ap_msAsg, ap_msBrk, ap_msCnt, ap_msDrop, ap_msFz, ap_mCallP, ap_mErrF, ap_mFz, ap_mD1, ap_msBad, ap_msPar, mCall_eq, sb_ok, sb_er, sl_ok, sl_er, so_ok, sn_ok, itS, vw, vws, vwM, unT, sq1, sq2, ln1, ln2, tr1, tr2, oEq_int, oI, blD, Zy.intD, frz, szB, atI, ixN, oInt, oPlus, oTimesX, ha, hn, h1, h2, h3, h4]; rfl) rfl⟩
theorem draw_ok {m : Nat} {s : DS} {n : Int} (h : DV (m + 1) s) (hn : 0 < n) (hn2 : n < 2 ^ 64) : ∃ v s', f__law_draw K Z [.r 0, .t (.int n)] [dst s] = .ok (.t (.int v)) [dst s'] ∧ 0 ≤ v ∧ v < n ∧ DV m s' := by
  obtain ⟨a, b, c⟩ := s
  by_cases ha : 0 < a
  · refine ⟨_, _, draw_big ha hn hn2, Int.emod_nonneg _ (by omega), Int.emod_lt_of_pos _ hn, ?_⟩
    have := h.c1
    exact ⟨Int.ediv_nonneg h.a0 (by omega), h.b0, h.b1, h.c0, by simp at *; omega⟩
  · have := h.c1
    have h0 := h.c0
    simp at this h0
    obtain ⟨v, e⟩ := draw_small (K := K) (Z := Z) (n := n) ha hn h.b0 h.b1 h0 (by omega)
    exact ⟨_, _, e, Int.emod_nonneg _ (by omega), Int.emod_lt_of_pos _ hn, h.a0, h.b0, h.b1, by simp; omega, by simp; omega⟩
/-! ### calls, seen from where the arguments are known -/
theorem callD {f : Fm} {n : Nat} {ts : List T} {m m' : MO} {g : Mu} {r : T} (hf : f (.r 0 :: ts.map D.t) [m] = .ok (.t r) (m' :: g)) (hn : ts.length + 1 = n) (hp : purM m = true) (hp' : purM m' = true) (rest : Mu) : callM f [] n (.r 0 :: ts.map D.t) (m :: rest) = .ok (.t r) (m' :: rest) :=
  call1 (i := 0) (μ := m :: rest) (μ1 := m :: rest) (ρ := []) rfl rfl hp hp' hn hf
theorem draw_call {m : Nat} {s : DS} {n : Int} (h : DV (m + 1) s) (hn : 0 < n) (hn2 : n < 2 ^ 64) : ∃ v s', (∀ rest, callM (f__law_draw K Z) [] 2 [.r 0, .t (.int n)] (dst s :: rest) = .ok (.t (.int v)) (dst s' :: rest)) ∧ 0 ≤ v ∧ v < n ∧ DV m s' := by
  obtain ⟨v, s', e, h1, h2, h3⟩ := draw_ok (K := K) (Z := Z) h hn hn2
  exact ⟨v, s', fun rest => callD (ts := [.int n]) e rfl rfl rfl rest, h1, h2, h3⟩
/-! ### pick -/
theorem atI_map {α β : Type} (f : α → β) (l : List α) (v : Int) : atI (l.map f) v = (atI l v).map f := by
  unfold atI
  rw [List.length_map]
  cases ixN l.length v with
  | none => rfl
  | some j => show (l.map f)[j]? = (l[j]?).map f; rw [List.getElem?_map]
theorem atI_nn {α : Type} {l : List α} {v : Int} (h0 : 0 ≤ v) (h1 : v < l.length) : ∃ x, atI l v = some x ∧ x ∈ l := by
  have h2 : v.toNat < l.length := by omega
  exact ⟨l[v.toNat], by unfold atI ixN; simp [h0, h1, h2], List.getElem_mem h2⟩
theorem pick_ok {m : Nat} {s : DS} {t : T} {l : List T} (h : DV (m + 1) s) (hl : seqT t = some l) (hn : lenT t = some l.length) (h0 : l ≠ []) (h1 : l.length < 2 ^ 62) : ∃ x s', f__law_pick K Z [.r 0, .t t] [dst s] = .ok (.t x) [dst s'] ∧ x ∈ l ∧ DV m s' := by
  have hp : 0 < l.length := List.length_pos_iff.mpr h0
  obtain ⟨v, s', e, hv0, hv1, hs⟩ := draw_call (K := K) (Z := Z) (n := l.length) h (by omega) (by omega)
  obtain ⟨x, ex, hx⟩ := atI_nn hv0 hv1
  refine ⟨x, s', ?_, hx, hs⟩
  have hO : oLen [t] = some (.int l.length) := by
    show (lenT t).map (fun n => T.int (n : Nat)) = _
    rw [hn]; rfl
  refine runM_ev (ρ := [some (.r 0), some (.t t)]) rfl (by simp [g__law_pick, outM, ap_mP, ap_mC, ap_mVar, ap_m1, ap_m2, ap_mN, ap_mIx, ap_mNil, ap_mCons, ap_mLst, ap_mLstR, ap_mTup, ap_mTru, ap_mBl, ap_mAndT, ap_mOrT, ap_mNotT, ap_mIf, ap_mAndV, ap_mOrV, ap_mNotV, ap_moNone, ap_moSome, ap_mSl, ap_mgName, ap_mgNil, ap_mgCons, ap_mgTup, ap_mgSub, ap_mYes, ap_msNext, ap_msSeq, ap_msRet, ap_msRetF, ap_msRetN, ap_msIf, ap_msAsg, ap_msBrk, ap_msCnt, ap_msDrop, ap_msFz, ap_mCallP, ap_mErrF, ap_mFz, ap_mD1, ap_msBad, ap_msPar, mCall_eq, sb_ok, sb_er, sl_ok, sl_er, so_ok, sn_ok, itS, vw, vws, vwM, unT, sq1, sq2, ln1, ln2, tr1, tr2, oEq_int, oI, blD, Zy.intD, frz, szB, hO, e, hl, atI_map, ex]; rfl) rfl
end
end K1
set_option Elab.async false
set_option linter.all false
set_option maxRecDepth 100000
set_option maxHeartbeats 400000
namespace K1
open PySem PySem.Spec PyProof.Rows L2 Zy
section
variable {K : PySem.W.Frag} {Z : Ads}
theorem number_ok {m : Nat} {s : DS} (h : DV (m + 2) s) : ∃ v s', f__law_number K Z [.r 0] [dst s] = .ok (.t (.int v)) [dst s'] ∧ 0 ≤ v ∧ v < 1000000000 ∧ DV m s' := by
  obtain ⟨way, s1, e1, h0, h1, d1⟩ := draw_call (K := K) (Z := Z) (n := 8) (m := m + 1) h (by decide) (by decide)
  have key : ∀ k : Int, 0 < k → k ≤ 1000000000 → (∀ v s', (∀ rest, callM (f__law_draw K Z) [] 2 [.r 0, .t (.int k)] (dst s1 :: rest) = .ok (.t (.int v)) (dst s' :: rest)) → f__law_number K Z [.r 0] [dst s] = .ok (.t (.int v)) [dst s']) → ∃ v s', f__law_number K Z [.r 0] [dst s] = .ok (.t (.int v)) [dst s'] ∧ 0 ≤ v ∧ v < 1000000000 ∧ DV m s' := by
    intro k hk hk2 f
    obtain ⟨v, s', e, v0, v1, d⟩ := draw_call (K := K) (Z := Z) (n := k) (m := m) d1 hk (by omega)
    exact ⟨v, s', f v s' e, v0, by omega, d⟩
  have hw : way = 0 ∨ way = 1 ∨ way = 2 ∨ way = 3 ∨ way = 4 ∨ way = 5 ∨ way = 6 ∨ way = 7 := by omega
  have hp : oPow (.int 10) (.int 9) = some (.int 1000000000) := pow_of ⟨by decide, by decide, by decide⟩ (by decide)
  rcases hw with rfl | rfl | rfl | rfl | rfl | rfl | rfl | rfl
  · exact key 1 (by decide) (by decide) fun v s' e => runM_ev (ρ := [some (.r 0), none]) rfl (by simp [g__law_number, outM, ap_mP, ap_mC, ap_mVar, ap_m1, ap_m2, ap_mN, ap_mIx, ap_mNil, ap_mCons, ap_mLst, ap_mLstR, ap_mTup, ap_mTru, ap_mBl, ap_mAndT, ap_mOrT, ap_mNotT, ap_mIf, ap_mAndV, ap_mOrV, ap_mNotV, ap_moNone, ap_moSome, ap_mSl, ap_mgName, ap_mgNil, ap_mgCons, ap_mgTup, ap_mgSub, ap_mYes, ap_msNext, ap_msSeq, ap_msRet, ap_msRetF, ap_msRetN, ap_msIf, ap_msAsg, ap_msBrk, ap_msCnt, ap_msDrop, ap_msFz, ap_mCallP, ap_mErrF, ap_mFz, ap_mD1, ap_msBad, ap_msPar, mCall_eq, sb_ok, sb_er, sl_ok, sl_er, so_ok, sn_ok, itS, vw, vws, vwM, unT, sq1, sq2, ln1, ln2, tr1, tr2, oEq_int, oI, blD, Zy.intD, frz, szB, atI, ixN, e1, e, sizeLine_eq]; rfl) rfl
  · exact key 4 (by decide) (by decide) fun v s' e => runM_ev (ρ := [some (.r 0), none]) rfl (by simp [g__law_number, outM, ap_mP, ap_mC, ap_mVar, ap_m1, ap_m2, ap_mN, ap_mIx, ap_mNil, ap_mCons, ap_mLst, ap_mLstR, ap_mTup, ap_mTru, ap_mBl, ap_mAndT, ap_mOrT, ap_mNotT, ap_mIf, ap_mAndV, ap_mOrV, ap_mNotV, ap_moNone, ap_moSome, ap_mSl, ap_mgName, ap_mgNil, ap_mgCons, ap_mgTup, ap_mgSub, ap_mYes, ap_msNext, ap_msSeq, ap_msRet, ap_msRetF, ap_msRetN, ap_msIf, ap_msAsg, ap_msBrk, ap_msCnt, ap_msDrop, ap_msFz, ap_mCallP, ap_mErrF, ap_mFz, ap_mD1, ap_msBad, ap_msPar, mCall_eq, sb_ok, sb_er, sl_ok, sl_er, so_ok, sn_ok, itS, vw, vws, vwM, unT, sq1, sq2, ln1, ln2, tr1, tr2, oEq_int, oI, blD, Zy.intD, frz, szB, atI, ixN, e1, e, sizeLine_eq]; rfl) rfl
  · exact key 4 (by decide) (by decide) fun v s' e => runM_ev (ρ := [some (.r 0), none]) rfl (by simp [g__law_number, outM, ap_mP, ap_mC, ap_mVar, ap_m1, ap_m2, ap_mN, ap_mIx, ap_mNil, ap_mCons, ap_mLst, ap_mLstR, ap_mTup, ap_mTru, ap_mBl, ap_mAndT, ap_mOrT, ap_mNotT, ap_mIf, ap_mAndV, ap_mOrV, ap_mNotV, ap_moNone, ap_moSome, ap_mSl, ap_mgName, ap_mgNil, ap_mgCons, ap_mgTup, ap_mgSub, ap_mYes, ap_msNext, ap_msSeq, ap_msRet, ap_msRetF, ap_msRetN, ap_msIf, ap_msAsg, ap_msBrk, ap_msCnt, ap_msDrop, ap_msFz, ap_mCallP, ap_mErrF, ap_mFz, ap_mD1, ap_msBad, ap_msPar, mCall_eq, sb_ok, sb_er, sl_ok, sl_er, so_ok, sn_ok, itS, vw, vws, vwM, unT, sq1, sq2, ln1, ln2, tr1, tr2, oEq_int, oI, blD, Zy.intD, frz, szB, atI, ixN, e1, e, sizeLine_eq]; rfl) rfl
  · exact key 7 (by decide) (by decide) fun v s' e => runM_ev (ρ := [some (.r 0), none]) rfl (by simp [g__law_number, outM, ap_mP, ap_mC, ap_mVar, ap_m1, ap_m2, ap_mN, ap_mIx, ap_mNil, ap_mCons, ap_mLst, ap_mLstR, ap_mTup, ap_mTru, ap_mBl, ap_mAndT, ap_mOrT, ap_mNotT, ap_mIf, ap_mAndV, ap_mOrV, ap_mNotV, ap_moNone, ap_moSome, ap_mSl, ap_mgName, ap_mgNil, ap_mgCons, ap_mgTup, ap_mgSub, ap_mYes, ap_msNext, ap_msSeq, ap_msRet, ap_msRetF, ap_msRetN, ap_msIf, ap_msAsg, ap_msBrk, ap_msCnt, ap_msDrop, ap_msFz, ap_mCallP, ap_mErrF, ap_mFz, ap_mD1, ap_msBad, ap_msPar, mCall_eq, sb_ok, sb_er, sl_ok, sl_er, so_ok, sn_ok, itS, vw, vws, vwM, unT, sq1, sq2, ln1, ln2, tr1, tr2, oEq_int, oI, blD, Zy.intD, frz, szB, atI, ixN, e1, e, sizeLine_eq]; rfl) rfl
  · exact key 7 (by decide) (by decide) fun v s' e => runM_ev (ρ := [some (.r 0), none]) rfl (by simp [g__law_number, outM, ap_mP, ap_mC, ap_mVar, ap_m1, ap_m2, ap_mN, ap_mIx, ap_mNil, ap_mCons, ap_mLst, ap_mLstR, ap_mTup, ap_mTru, ap_mBl, ap_mAndT, ap_mOrT, ap_mNotT, ap_mIf, ap_mAndV, ap_mOrV, ap_mNotV, ap_moNone, ap_moSome, ap_mSl, ap_mgName, ap_mgNil, ap_mgCons, ap_mgTup, ap_mgSub, ap_mYes, ap_msNext, ap_msSeq, ap_msRet, ap_msRetF, ap_msRetN, ap_msIf, ap_msAsg, ap_msBrk, ap_msCnt, ap_msDrop, ap_msFz, ap_mCallP, ap_mErrF, ap_mFz, ap_mD1, ap_msBad, ap_msPar, mCall_eq, sb_ok, sb_er, sl_ok, sl_er, so_ok, sn_ok, itS, vw, vws, vwM, unT, sq1, sq2, ln1, ln2, tr1, tr2, oEq_int, oI, blD, Zy.intD, frz, szB, atI, ixN, e1, e, sizeLine_eq]; rfl) rfl
  · exact key 12 (by decide) (by decide) fun v s' e => runM_ev (ρ := [some (.r 0), none]) rfl (by simp [g__law_number, outM, ap_mP, ap_mC, ap_mVar, ap_m1, ap_m2, ap_mN, ap_mIx, ap_mNil, ap_mCons, ap_mLst, ap_mLstR, ap_mTup, ap_mTru, ap_mBl, ap_mAndT, ap_mOrT, ap_mNotT, ap_mIf, ap_mAndV, ap_mOrV, ap_mNotV, ap_moNone, ap_moSome, ap_mSl, ap_mgName, ap_mgNil, ap_mgCons, ap_mgTup, ap_mgSub, ap_mYes, ap_msNext, ap_msSeq, ap_msRet, ap_msRetF, ap_msRetN, ap_msIf, ap_msAsg, ap_msBrk, ap_msCnt, ap_msDrop, ap_msFz, ap_mCallP, ap_mErrF, ap_mFz, ap_mD1, ap_msBad, ap_msPar, mCall_eq, sb_ok, sb_er, sl_ok, sl_er, so_ok, sn_ok, itS, vw, vws, vwM, unT, sq1, sq2, ln1, ln2, tr1, tr2, oEq_int, oI, blD, Zy.intD, frz, szB, atI, ixN, e1, e, sizeLine_eq]; rfl) rfl
  · exact key 100 (by decide) (by decide) fun v s' e => runM_ev (ρ := [some (.r 0), none]) rfl (by simp [g__law_number, outM, ap_mP, ap_mC, ap_mVar, ap_m1, ap_m2, ap_mN, ap_mIx, ap_mNil, ap_mCons, ap_mLst, ap_mLstR, ap_mTup, ap_mTru, ap_mBl, ap_mAndT, ap_mOrT, ap_mNotT, ap_mIf, ap_mAndV, ap_mOrV, ap_mNotV, ap_moNone, ap_moSome, ap_mSl, ap_mgName, ap_mgNil, ap_mgCons, ap_mgTup, ap_mgSub, ap_mYes, ap_msNext, ap_msSeq, ap_msRet, ap_msRetF, ap_msRetN, ap_msIf, ap_msAsg, ap_msBrk, ap_msCnt, ap_msDrop, ap_msFz, ap_mCallP, ap_mErrF, ap_mFz, ap_mD1, ap_msBad, ap_msPar, mCall_eq, sb_ok, sb_er, sl_ok, sl_er, so_ok, sn_ok, itS, vw, vws, vwM, unT, sq1, sq2, ln1, ln2, tr1, tr2, oEq_int, oI, blD, Zy.intD, frz, szB, atI, ixN, e1, e]; rfl) rfl
  · exact key 1000000000 (by decide) (by decide) fun v s' e => runM_ev (ρ := [some (.r 0), none]) rfl (by simp [g__law_number, outM, ap_mP, ap_mC, ap_mVar, ap_m1, ap_m2, ap_mN, ap_mIx, ap_mNil, ap_mCons, ap_mLst, ap_mLstR, ap_mTup, ap_mTru, ap_mBl, ap_mAndT, ap_mOrT, ap_mNotT, ap_mIf, ap_mAndV, ap_mOrV, ap_mNotV, ap_moNone, ap_moSome, ap_mSl, ap_mgName, ap_mgNil, ap_mgCons, ap_mgTup, ap_mgSub, ap_mYes, ap_msNext, ap_msSeq, ap_msRet, ap_msRetF, ap_msRetN, ap_msIf, ap_msAsg, ap_msBrk, ap_msCnt, ap_msDrop, ap_msFz, ap_mCallP, ap_mErrF, ap_mFz, ap_mD1, ap_msBad, ap_msPar, mCall_eq, sb_ok, sb_er, sl_ok, sl_er, so_ok, sn_ok, itS, vw, vws, vwM, unT, sq1, sq2, ln1, ln2, tr1, tr2, oEq_int, oI, blD, Zy.intD, frz, szB, atI, ixN, e1, e, hp, -oI]; rfl) rfl
abbrev iL (ns : List Int) : List T := ns.map T.int
/-- a comprehension that draws -/
theorem compM_drw {tg : Mg} {ge : Sx} {ρ : En} {rest : Mu} {P : T → T → Prop} {k : Nat} : ∀ (l : List T) (acc : List D) (m : Nat) (s : DS), DV (m + k * l.length) s →
    (∀ x ∈ l, ∀ s m, DV (m + k) s → ∃ q y s', tg (.t x) ρ (dst s :: rest) = some (q, dst s :: rest) ∧ ge q (dst s :: rest) = .ok (.t y) (dst s' :: rest) ∧ P x y ∧ DV m s') →
    ∃ ys s', compM none tg mYes ge ρ (l.map D.t) acc (dst s :: rest) = .ok (acc ++ ys.map D.t) (dst s' :: rest) ∧ Paired P l ys ∧ DV m s'
  | [], acc, m, s, hs, _ => ⟨[], s, by simp [compM, ckP], .nil, by simpa using hs⟩
  | x :: l, acc, m, s, hs, h => by
    obtain ⟨q, y, s1, h1, h2, h3, h4⟩ := h x List.mem_cons_self s (m + k * l.length) (by rw [List.length_cons] at hs; rw [Nat.add_assoc, ← Nat.mul_succ]; exact hs)
    obtain ⟨ys, s2, h5, h6, h7⟩ := compM_drw l (acc ++ [.t y]) m s1 h4 fun z hz => h z (List.mem_cons_of_mem _ hz)
    refine ⟨y :: ys, s2, ?_, .cons h3 h6, h7⟩
    rw [List.map_cons]
    unfold compM
    rw [if_pos (show ckP none (dst s :: rest) from trivial), h1]
    show ((ge q (dst s :: rest)).only.bind fun y μ3 => compM none tg mYes ge ρ (l.map D.t) (acc ++ [y]) μ3) = _
    rw [h2]
    show compM none tg mYes ge ρ (l.map D.t) (acc ++ [.t y]) (dst s1 :: rest) = _
    rw [h5, List.append_assoc]; rfl
theorem unT_map' (l : List T) : unT (l.map D.t) = some l := unT_of l
theorem paired_len {α β : Type} {R : α → β → Prop} : ∀ {l : List α} {m : List β}, Paired R l m → m.length = l.length
  | _, _, .nil => rfl
  | _, _, .cons _ h => by simp [paired_len h]
theorem number_call {m : Nat} {s : DS} (h : DV (m + 2) s) : ∃ v s', (∀ rest, callM (f__law_number K Z) [] 1 [.r 0] (dst s :: rest) = .ok (.t (.int v)) (dst s' :: rest)) ∧ 0 ≤ v ∧ v < 1000000000 ∧ DV m s' := by
  obtain ⟨v, s', e, h1, h2, h3⟩ := number_ok (K := K) (Z := Z) h
  exact ⟨v, s', fun rest => callD (ts := []) e rfl rfl rfl rest, h1, h2, h3⟩
def AmB (b : Int) (many : Nat) (ns : List Int) : Prop := ns.length = many ∧ ∀ n ∈ ns, 0 ≤ n ∧ n < b
abbrev Amt (many : Nat) (ns : List Int) : Prop := AmB 1000000000000 many ns
theorem iL_of {α : Type} {R : Int → Prop} : ∀ {l : List α} {ys : List T}, Paired (fun _ y => ∃ v, y = .int v ∧ R v) l ys → ∃ ns : List Int, ys = iL ns ∧ (∀ n ∈ ns, R n)
  | _, _, .nil => ⟨[], rfl, fun n h => nomatch h⟩
  | _, _, .cons ⟨v, e, r⟩ h => by
    obtain ⟨ns, e2, r2⟩ := iL_of h
    subst e e2
    exact ⟨v :: ns, rfl, fun n hn => by
      rcases List.mem_cons.mp hn with rfl | z
      · exact r
      · exact r2 n z⟩
theorem amount_ok {m many : Nat} {s : DS} (hm : many ≤ 3) (h : DV (m + 2 * many) s) : ∃ ns s', f__law_amount K Z [.r 0, .t (.int many)] [dst s] = .ok (.t (.tup (iL ns))) [dst s'] ∧ AmB 1000000000 many ns ∧ DV m s' := by
  obtain ⟨ys, s', e, p, d⟩ := compM_drw (tg := mgName 2) (ge := mCall (f__law_number K Z) [] 1 (mCons (mVar 0) mNil)) (ρ := [some (.r 0), some (.t (.int many)), none]) (rest := []) (P := fun _ y => ∃ v, y = .int v ∧ (0 ≤ v ∧ v < 1000000000)) (k := 2) ((List.range many).map fun i => T.int (i : Nat)) [] m s (by simpa using h) (fun x _ s m hs => by
    obtain ⟨v, s', e, h1, h2, h3⟩ := number_call (K := K) (Z := Z) hs
    exact ⟨_, .int v, s', rfl, by simp [outM, ap_mP, ap_mC, ap_mVar, ap_m1, ap_m2, ap_mN, ap_mIx, ap_mNil, ap_mCons, ap_mLst, ap_mLstR, ap_mTup, ap_mTru, ap_mBl, ap_mAndT, ap_mOrT, ap_mNotT, ap_mIf, ap_mAndV, ap_mOrV, ap_mNotV, ap_moNone, ap_moSome, ap_mSl, ap_mgName, ap_mgNil, ap_mgCons, ap_mgTup, ap_mgSub, ap_mYes, ap_msNext, ap_msSeq, ap_msRet, ap_msRetF, ap_msRetN, ap_msIf, ap_msAsg, ap_msBrk, ap_msCnt, ap_msDrop, ap_msFz, ap_mCallP, ap_mErrF, ap_mFz, ap_mD1, ap_msBad, ap_msPar, mCall_eq, sb_ok, sb_er, sl_ok, sl_er, so_ok, sn_ok, itS, vw, vws, vwM, unT, sq1, sq2, ln1, ln2, tr1, tr2, oEq_int, oI, blD, Zy.intD, frz, szB, e], ⟨v, rfl, h1, h2⟩, h3⟩)
  obtain ⟨ns, rfl, r⟩ := iL_of p
  have hl : ns.length = many := by have := paired_len p; simpa using this
  refine ⟨ns, s', ?_, ⟨hl, fun n hn => by have := r n hn; omega⟩, d⟩
  have hLc : mLc (miO Zy.ints1 (mCons (mVar 1) mNil)) (mgName 2) mYes (mCall (f__law_number K Z) [] 1 (mCons (mVar 0) mNil)) [2] [some (.r 0), some (.t (.int many)), none] [dst s] = .ok (.t (.lst (iL ns))) [dst s'] :=
    mLc_ev (miO_ev (ts := [.int many]) rfl (ints1_n (by omega))) (by simp; exact le_size (by omega)) e
  have ht := oTuple_l (l := iL ns) (by rw [List.length_map, hl]; exact le_size (by omega))
  exact runM_ev (ρ := [some (.r 0), some (.t (.int many)), none]) rfl (by simp [g__law_amount, outM, ap_mP, ap_mC, ap_mVar, ap_m1, ap_m2, ap_mN, ap_mIx, ap_mNil, ap_mCons, ap_mLst, ap_mLstR, ap_mTup, ap_mTru, ap_mBl, ap_mAndT, ap_mOrT, ap_mNotT, ap_mIf, ap_mAndV, ap_mOrV, ap_mNotV, ap_moNone, ap_moSome, ap_mSl, ap_mgName, ap_mgNil, ap_mgCons, ap_mgTup, ap_mgSub, ap_mYes, ap_msNext, ap_msSeq, ap_msRet, ap_msRetF, ap_msRetN, ap_msIf, ap_msAsg, ap_msBrk, ap_msCnt, ap_msDrop, ap_msFz, ap_mCallP, ap_mErrF, ap_mFz, ap_mD1, ap_msBad, ap_msPar, mCall_eq, sb_ok, sb_er, sl_ok, sl_er, so_ok, sn_ok, itS, vw, vws, vwM, unT, sq1, sq2, ln1, ln2, tr1, tr2, oEq_int, oI, blD, Zy.intD, frz, szB, hLc, ht]; rfl) rfl
end
end K1
set_option Elab.async false
set_option linter.all false
set_option maxRecDepth 100000
set_option maxHeartbeats 400000
namespace K1
open PySem PySem.Spec PyProof.Rows L2 Zy
section
variable {K : PySem.W.Frag} {Z : Ads}
/-- x and y are lists or tuples of the same items -/
def SameIt (x y : T) : Prop := ∃ l, (x = .tup l ∨ x = .lst l) ∧ (y = .tup l ∨ y = .lst l) ∧ l.length ≤ 1000000
theorem handed_ok {m : Nat} {s : DS} {rows : List T} (hr : ∀ x ∈ rows, ∃ l, (x = .tup l ∨ x = .lst l) ∧ l.length ≤ 1000000) (hz : rows.length ≤ 1000000) (h : DV (m + 1 + 1 * rows.length) s) :
    ∃ t ls s', f__law_handed K Z [.r 0, .t (.lst rows)] [dst s] = .ok (.t t) [dst s'] ∧ (t = .lst ls ∨ t = .tup ls) ∧ Paired SameIt rows ls ∧ DV m s' := by
  obtain ⟨ls, s1, e, p, d⟩ := compM_drw (tg := mgName 3) (ge := mIf (mBl (m2 oEq (mCall (f__law_draw K Z) [] 2 (mCons (mVar 0) (mCons (mC (.int 2)) (mNil)))) (mC (.int 0)))) (mN oList (mCons (mVar 3) (mNil))) (mN oTuple (mCons (mVar 3) (mNil)))) (ρ := [some (.r 0), some (.t (.lst rows)), none, none]) (rest := []) (P := SameIt) (k := 1) rows [] (m + 1) s h (fun x hx s m hs => by
    obtain ⟨v, s', e, h1, h2, h3⟩ := draw_call (K := K) (Z := Z) (n := 2) hs (by decide) (by decide)
    obtain ⟨l, hxl, hl⟩ := hr x hx
    have hv : v = 0 ∨ v = 1 := by omega
    rcases hv with rfl | rfl
    · rcases hxl with rfl | rfl
      · exact ⟨_, .lst l, s', rfl, by simp [outM, ap_mP, ap_mC, ap_mVar, ap_m1, ap_m2, ap_mN, ap_mIx, ap_mNil, ap_mCons, ap_mLst, ap_mLstR, ap_mTup, ap_mTru, ap_mBl, ap_mAndT, ap_mOrT, ap_mNotT, ap_mIf, ap_mAndV, ap_mOrV, ap_mNotV, ap_moNone, ap_moSome, ap_mSl, ap_mgName, ap_mgNil, ap_mgCons, ap_mgTup, ap_mgSub, ap_mYes, ap_msNext, ap_msSeq, ap_msRet, ap_msRetF, ap_msRetN, ap_msIf, ap_msAsg, ap_msBrk, ap_msCnt, ap_msDrop, ap_msFz, ap_mCallP, ap_mErrF, ap_mFz, ap_mD1, ap_msBad, ap_msPar, mCall_eq, sb_ok, sb_er, sl_ok, sl_er, so_ok, sn_ok, itS, vw, vws, vwM, unT, sq1, sq2, ln1, ln2, tr1, tr2, oEq_int, oI, blD, Zy.intD, frz, szB, e, oList_t (le_size hl)], ⟨l, .inl rfl, .inr rfl, hl⟩, h3⟩
      · exact ⟨_, .lst l, s', rfl, by simp [outM, ap_mP, ap_mC, ap_mVar, ap_m1, ap_m2, ap_mN, ap_mIx, ap_mNil, ap_mCons, ap_mLst, ap_mLstR, ap_mTup, ap_mTru, ap_mBl, ap_mAndT, ap_mOrT, ap_mNotT, ap_mIf, ap_mAndV, ap_mOrV, ap_mNotV, ap_moNone, ap_moSome, ap_mSl, ap_mgName, ap_mgNil, ap_mgCons, ap_mgTup, ap_mgSub, ap_mYes, ap_msNext, ap_msSeq, ap_msRet, ap_msRetF, ap_msRetN, ap_msIf, ap_msAsg, ap_msBrk, ap_msCnt, ap_msDrop, ap_msFz, ap_mCallP, ap_mErrF, ap_mFz, ap_mD1, ap_msBad, ap_msPar, mCall_eq, sb_ok, sb_er, sl_ok, sl_er, so_ok, sn_ok, itS, vw, vws, vwM, unT, sq1, sq2, ln1, ln2, tr1, tr2, oEq_int, oI, blD, Zy.intD, frz, szB, e, oList_l (le_size hl)], ⟨l, .inr rfl, .inr rfl, hl⟩, h3⟩
    · rcases hxl with rfl | rfl
      · exact ⟨_, .tup l, s', rfl, by simp [outM, ap_mP, ap_mC, ap_mVar, ap_m1, ap_m2, ap_mN, ap_mIx, ap_mNil, ap_mCons, ap_mLst, ap_mLstR, ap_mTup, ap_mTru, ap_mBl, ap_mAndT, ap_mOrT, ap_mNotT, ap_mIf, ap_mAndV, ap_mOrV, ap_mNotV, ap_moNone, ap_moSome, ap_mSl, ap_mgName, ap_mgNil, ap_mgCons, ap_mgTup, ap_mgSub, ap_mYes, ap_msNext, ap_msSeq, ap_msRet, ap_msRetF, ap_msRetN, ap_msIf, ap_msAsg, ap_msBrk, ap_msCnt, ap_msDrop, ap_msFz, ap_mCallP, ap_mErrF, ap_mFz, ap_mD1, ap_msBad, ap_msPar, mCall_eq, sb_ok, sb_er, sl_ok, sl_er, so_ok, sn_ok, itS, vw, vws, vwM, unT, sq1, sq2, ln1, ln2, tr1, tr2, oEq_int, oI, blD, Zy.intD, frz, szB, e, oTuple_t (le_size hl)], ⟨l, .inl rfl, .inl rfl, hl⟩, h3⟩
      · exact ⟨_, .tup l, s', rfl, by simp [outM, ap_mP, ap_mC, ap_mVar, ap_m1, ap_m2, ap_mN, ap_mIx, ap_mNil, ap_mCons, ap_mLst, ap_mLstR, ap_mTup, ap_mTru, ap_mBl, ap_mAndT, ap_mOrT, ap_mNotT, ap_mIf, ap_mAndV, ap_mOrV, ap_mNotV, ap_moNone, ap_moSome, ap_mSl, ap_mgName, ap_mgNil, ap_mgCons, ap_mgTup, ap_mgSub, ap_mYes, ap_msNext, ap_msSeq, ap_msRet, ap_msRetF, ap_msRetN, ap_msIf, ap_msAsg, ap_msBrk, ap_msCnt, ap_msDrop, ap_msFz, ap_mCallP, ap_mErrF, ap_mFz, ap_mD1, ap_msBad, ap_msPar, mCall_eq, sb_ok, sb_er, sl_ok, sl_er, so_ok, sn_ok, itS, vw, vws, vwM, unT, sq1, sq2, ln1, ln2, tr1, tr2, oEq_int, oI, blD, Zy.intD, frz, szB, e, oTuple_l (le_size hl)], ⟨l, .inr rfl, .inl rfl, hl⟩, h3⟩)
  have hl : ls.length = rows.length := paired_len p
  obtain ⟨v, s2, e2, h1, h2, h3⟩ := draw_call (K := K) (Z := Z) (n := 2) d (by decide) (by decide)
  have hLc := mLc_ev (gi := miSeq (mVar 1)) (vs := [3]) (ρ := [some (.r 0), some (.t (.lst rows)), none, none]) (miSeq_ev (μ := [dst s]) (t := .lst rows) rfl rfl) (by simpa using le_size hz) e
  have hv : v = 0 ∨ v = 1 := by omega
  have ht := oTuple_l (l := ls) (by rw [hl]; exact le_size hz)
  rcases hv with rfl | rfl
  · exact ⟨.lst ls, ls, s2, runM_ev (ρ := [some (.r 0), some (.t (.lst rows)), none, none]) rfl (by simp [g__law_handed, outM, ap_mP, ap_mC, ap_mVar, ap_m1, ap_m2, ap_mN, ap_mIx, ap_mNil, ap_mCons, ap_mLst, ap_mLstR, ap_mTup, ap_mTru, ap_mBl, ap_mAndT, ap_mOrT, ap_mNotT, ap_mIf, ap_mAndV, ap_mOrV, ap_mNotV, ap_moNone, ap_moSome, ap_mSl, ap_mgName, ap_mgNil, ap_mgCons, ap_mgTup, ap_mgSub, ap_mYes, ap_msNext, ap_msSeq, ap_msRet, ap_msRetF, ap_msRetN, ap_msIf, ap_msAsg, ap_msBrk, ap_msCnt, ap_msDrop, ap_msFz, ap_mCallP, ap_mErrF, ap_mFz, ap_mD1, ap_msBad, ap_msPar, mCall_eq, sb_ok, sb_er, sl_ok, sl_er, so_ok, sn_ok, itS, vw, vws, vwM, unT, sq1, sq2, ln1, ln2, tr1, tr2, oEq_int, oI, blD, Zy.intD, frz, szB, hLc, e2]; rfl) rfl, .inl rfl, p, h3⟩
  · exact ⟨.tup ls, ls, s2, runM_ev (ρ := [some (.r 0), some (.t (.lst rows)), none, none]) rfl (by simp [g__law_handed, outM, ap_mP, ap_mC, ap_mVar, ap_m1, ap_m2, ap_mN, ap_mIx, ap_mNil, ap_mCons, ap_mLst, ap_mLstR, ap_mTup, ap_mTru, ap_mBl, ap_mAndT, ap_mOrT, ap_mNotT, ap_mIf, ap_mAndV, ap_mOrV, ap_mNotV, ap_moNone, ap_moSome, ap_mSl, ap_mgName, ap_mgNil, ap_mgCons, ap_mgTup, ap_mgSub, ap_mYes, ap_msNext, ap_msSeq, ap_msRet, ap_msRetF, ap_msRetN, ap_msIf, ap_msAsg, ap_msBrk, ap_msCnt, ap_msDrop, ap_msFz, ap_mCallP, ap_mErrF, ap_mFz, ap_mD1, ap_msBad, ap_msPar, mCall_eq, sb_ok, sb_er, sl_ok, sl_er, so_ok, sn_ok, itS, vw, vws, vwM, unT, sq1, sq2, ln1, ln2, tr1, tr2, oEq_int, oI, blD, Zy.intD, frz, szB, hLc, e2, ht]; rfl) rfl, .inr rfl, p, h3⟩
theorem pick_call {m : Nat} {s : DS} {t : T} {l : List T} (h : DV (m + 1) s) (hl : seqT t = some l) (hn : lenT t = some l.length) (h0 : l ≠ []) (h1 : l.length < 2 ^ 62) : ∃ x s', (∀ rest, callM (f__law_pick K Z) [] 2 [.r 0, .t t] (dst s :: rest) = .ok (.t x) (dst s' :: rest)) ∧ x ∈ l ∧ DV m s' := by
  obtain ⟨x, s', e, h2, h3⟩ := pick_ok (K := K) (Z := Z) h hl hn h0 h1
  exact ⟨x, s', fun rest => callD (ts := [t]) e rfl rfl rfl rest, h2, h3⟩
def Prc (many : Nat) (ns : List Int) : Prop := Amt many ns ∧ ∃ n ∈ ns, 0 < n
theorem ixN_nn {n : Nat} {v : Int} (h0 : 0 ≤ v) (h1 : v < n) : ixN n v = some v.toNat := by unfold ixN; rw [if_pos h0, if_pos h1]
theorem prices_ok {m many : Nat} {s : DS} (hm : many ≤ 3) (hm0 : 1 ≤ many) (h : DV (m + 2 + 1 * many) s) : ∃ ns s', f__law_prices K Z [.r 0, .t (.int many)] [dst s] = .ok (.r 1) [dst s', .lst ((iL ns).map D.t)] ∧ Prc many ns ∧ DV m s' := by
  have hp : oPow (.int 10) (.int 9) = some (.int 1000000000) := pow_of ⟨by decide, by decide, by decide⟩ (by decide)
  obtain ⟨ys, s1, e, p, d⟩ := compM_drw (tg := mgName 3) (ge := mCall (f__law_pick K Z) [] 2 (mCons (mVar 0) (mCons (mLst (mCons (mC (.int 0)) (mCons (mC (.int 1)) (mCons (mC (.int 2)) (mCons (mC (.int 3)) (mCons (mC (.int 7)) (mCons (mC (.int 100)) (mCons (m2 oPow (mC (.int 10)) (mC (.int 9))) (mNil))))))))) (mNil)))) (ρ := [some (.r 0), some (.t (.int many)), none, none]) (rest := []) (P := fun _ y => ∃ v, y = .int v ∧ (0 ≤ v ∧ v < 1000000000000)) (k := 1) ((List.range many).map fun i => T.int (i : Nat)) [] (m + 2) s (by simpa using h) (fun x _ s m hs => by
    obtain ⟨v, s', e, h1, h3⟩ := pick_call (K := K) (Z := Z) (t := .lst [.int 0, .int 1, .int 2, .int 3, .int 7, .int 100, .int 1000000000]) hs rfl rfl (by simp) (by decide)
    refine ⟨_, v, s', rfl, by simp [outM, ap_mP, ap_mC, ap_mVar, ap_m1, ap_m2, ap_mN, ap_mIx, ap_mNil, ap_mCons, ap_mLst, ap_mLstR, ap_mTup, ap_mTru, ap_mBl, ap_mAndT, ap_mOrT, ap_mNotT, ap_mIf, ap_mAndV, ap_mOrV, ap_mNotV, ap_moNone, ap_moSome, ap_mSl, ap_mgName, ap_mgNil, ap_mgCons, ap_mgTup, ap_mgSub, ap_mYes, ap_msNext, ap_msSeq, ap_msRet, ap_msRetF, ap_msRetN, ap_msIf, ap_msAsg, ap_msBrk, ap_msCnt, ap_msDrop, ap_msFz, ap_mCallP, ap_mErrF, ap_mFz, ap_mD1, ap_msBad, ap_msPar, mCall_eq, sb_ok, sb_er, sl_ok, sl_er, so_ok, sn_ok, itS, vw, vws, vwM, unT, sq1, sq2, ln1, ln2, tr1, tr2, oEq_int, oI, blD, Zy.intD, frz, szB, e, hp, sizeLine_eq, -oI], ?_, h3⟩
    simp at h1
    rcases h1 with rfl | rfl | rfl | rfl | rfl | rfl | rfl <;> exact ⟨_, rfl, by decide, by decide⟩)
  obtain ⟨ns, rfl, r⟩ := iL_of p
  have hl : ns.length = many := by have := paired_len p; simpa using this
  have hLc := mLcR_ev (gi := miO Zy.ints1 (mCons (mVar 1) mNil)) (vs := [3]) (ρ := [some (.r 0), some (.t (.int many)), none, none]) (μ := [dst s]) (miO_ev (ts := [.int many]) rfl (ints1_n (by omega))) (by simp; exact le_size (by omega)) e
  obtain ⟨v, s2, e2, v0, v1, d2⟩ := draw_call (K := K) (Z := Z) (n := 12) (m := m + 1) d (by decide) (by decide)
  obtain ⟨i, s3, e3, i0, i1, d3⟩ := draw_call (K := K) (Z := Z) (n := many) (m := m) d2 (by omega) (by omega)
  refine ⟨ns.set i.toNat (1 + v), s3, runM_ev (ρ := [some (.r 0), some (.t (.int many)), none, none]) rfl (by simp [g__law_prices, outM, ap_mP, ap_mC, ap_mVar, ap_m1, ap_m2, ap_mN, ap_mIx, ap_mNil, ap_mCons, ap_mLst, ap_mLstR, ap_mTup, ap_mTru, ap_mBl, ap_mAndT, ap_mOrT, ap_mNotT, ap_mIf, ap_mAndV, ap_mOrV, ap_mNotV, ap_moNone, ap_moSome, ap_mSl, ap_mgName, ap_mgNil, ap_mgCons, ap_mgTup, ap_mgSub, ap_mYes, ap_msNext, ap_msSeq, ap_msRet, ap_msRetF, ap_msRetN, ap_msIf, ap_msAsg, ap_msBrk, ap_msCnt, ap_msDrop, ap_msFz, ap_mCallP, ap_mErrF, ap_mFz, ap_mD1, ap_msBad, ap_msPar, mCall_eq, sb_ok, sb_er, sl_ok, sl_er, so_ok, sn_ok, itS, vw, vws, vwM, unT, sq1, sq2, ln1, ln2, tr1, tr2, oEq_int, oI, blD, Zy.intD, frz, szB, hLc, e2, e3, oPlus, ixN_nn i0 (show i < (ns.length : Int) by omega)]; rfl) (by simp [outM, List.map_set]), ⟨⟨by simpa using hl, fun n hn => ?_⟩, 1 + v, ?_, by omega⟩, d3⟩
  · rcases List.mem_or_eq_of_mem_set hn with z | rfl
    · exact r n z
    · omega
  · have hi : i.toNat < ns.length := by omega
    exact List.mem_set hi _
end
end K1
set_option Elab.async false
set_option linter.all false
set_option maxRecDepth 100000
set_option maxHeartbeats 400000
namespace K1
open PySem PySem.Spec PyProof.Rows L2 Zy
section
variable {K : PySem.W.Frag} {Z : Ads}
theorem callD2 {f : Fm} {m m' k k' : MO} {g : Mu} {r : T} (hf : f [.r 0, .r 1] [m, k] = .ok (.t r) (m' :: k' :: g)) (hp : purM m = true) (hk : purM k = true) (hp' : purM m' = true) (hk' : purM k' = true) : callM f [] 2 [.r 0, .r 1] [m, k] = .ok (.t r) [m', k'] := by
  have hr : refs [D.r 0, .r 1] = [0, 1] := rfl
  have hs : sub [m, k] [0, 1] = some [m, k] := by simp [sub, hp, hk]
  unfold callM mCall
  show (if 2 + 0 = 2 then (match sub [m, k] (refs [D.r 0, .r 1]) with
    | none => Sr.bad
    | some μs => match f ([D.r 0, .r 1].map (ren (refs [D.r 0, .r 1])) ++ ([] : List T).map D.t) μs with
      | .bad => .bad
      | .ok d μ' => backM [m, k] (refs [D.r 0, .r 1]) d μ'
      | .er e μ' => if (refs [D.r 0, .r 1]).length ≤ μ'.length ∧ allP (μ'.take (refs [D.r 0, .r 1]).length) = true then .er e (put [m, k] (refs [D.r 0, .r 1]) (μ'.take (refs [D.r 0, .r 1]).length)) else .bad) else .bad) = _
  rw [if_pos rfl, hr, hs]
  show (match f ([D.r 0, .r 1].map (ren [0, 1]) ++ ([] : List T).map D.t) [m, k] with
      | .bad => Sr.bad
      | .ok d μ' => backM [m, k] [0, 1] d μ'
      | .er e μ' => if [0, 1].length ≤ μ'.length ∧ allP (μ'.take [0, 1].length) = true then .er e (put [m, k] [0, 1] (μ'.take [0, 1].length)) else .bad) = _
  have hren : [D.r 0, .r 1].map (ren [0, 1]) ++ ([] : List T).map D.t = [D.r 0, .r 1] := rfl
  rw [hren, hf]
  show backM [m, k] [0, 1] (.t r) (m' :: k' :: g) = _
  unfold backM
  rw [if_pos ⟨by simp, by simp [allP, hp', hk']⟩]
  simp [put]
theorem pur_lst (l : List T) : purM (.lst (l.map D.t)) = true := by
  show (unT (l.map D.t)).isSome = true
  rw [unT_of]; rfl
theorem pick2 {m : Nat} {s : DS} {l : List T} (h : DV (m + 1) s) (h0 : l ≠ []) (h1 : l.length < 2 ^ 62) : ∃ x s', callM (f__law_pick K Z) [] 2 [.r 0, .r 1] [dst s, .lst (l.map D.t)] = .ok (.t x) [dst s', .lst (l.map D.t)] ∧ x ∈ l ∧ DV m s' := by
  have hp : 0 < l.length := List.length_pos_iff.mpr h0
  obtain ⟨v, s', e, hv0, hv1, hs⟩ := draw_call (K := K) (Z := Z) (n := l.length) h (by omega) (by omega)
  obtain ⟨x, ex, hx⟩ := atI_nn hv0 hv1
  refine ⟨x, s', callD2 (g := []) (runM_ev (ρ := [some (.r 0), some (.r 1)]) (o := some (.rt (.t x) [dst s', .lst (l.map D.t)])) rfl ?_ rfl) rfl (pur_lst l) rfl (pur_lst l), hx, hs⟩
  have hO : oLen [.lst l] = some (.int l.length) := rfl
  have hv : vw [dst s, .lst (l.map D.t)] (.r 1) = some (.lst l) := by
    show (unT (l.map D.t)).map T.lst = _
    rw [unT_of]; rfl
  simp [g__law_pick, ap_msRet, ap_mIx, ap_mVar, ap_mCons, ap_mNil, ap_mN, sb_ok, sl_ok, so_ok, mCall_eq, vws, hv, hO, e, itS, atI_map, ex]
/-! ### the amounts -/
theorem zpO_iL : ∀ ns ms : List Int, zpO (iL ns) (iL ms) = (ns.zip ms).map fun p => T.tup [.int p.1, .int p.2]
  | [], ms => by cases ms <;> rfl
  | n :: ns, [] => rfl
  | n :: ns, x :: ms => by
    show T.tup [.int n, .int x] :: zpO (iL ns) (iL ms) = _
    rw [zpO_iL ns ms]; rfl
theorem mem_map_iL {ns : List Int} {t : T} (h : t ∈ iL ns) : ∃ n ∈ ns, t = .int n := by
  obtain ⟨n, h1, h2⟩ := List.mem_map.mp h
  exact ⟨n, h1, h2.symm⟩
theorem amount_call {m many : Nat} {s : DS} (hm : many ≤ 3) (h : DV (m + 2 * many) s) : ∃ ns s', (∀ rest, callM (f__law_amount K Z) [] 2 [.r 0, .t (.int many)] (dst s :: rest) = .ok (.t (.tup (iL ns))) (dst s' :: rest)) ∧ AmB 1000000000 many ns ∧ DV m s' := by
  obtain ⟨ns, s', e, h1, h2⟩ := amount_ok (K := K) (Z := Z) hm h
  exact ⟨ns, s', fun rest => callD (ts := [.int many]) e rfl rfl rfl rest, h1, h2⟩
noncomputable def bodyA (K : PySem.W.Frag) (Z : Ads) : Ms := ((msSeq (msAsg (mIf (mBl (m2 oNe (mVar 3) (mLst (mNil)))) (mCall (f__law_draw K Z) [] 2 (mCons (mVar 0) (mCons (mC (.int 6)) (mNil)))) (mC (.int 5))) (mgName 5)) (msSeq (msAsg (mIf (mBl (m2 oLt (mVar 5) (mC (.int 3)))) (mCall (f__law_pick K Z) [] 2 (mCons (mVar 0) (mCons (mVar 3) (mNil)))) (mTup (mNil))) (mgName 6)) (msIf (mBl (m2 oEq (mVar 5) (mC (.int 0)))) ((msDrop (mApp (mVar 3) (mVar 6)))) ((msIf (mBl (m2 oLt (mVar 5) (mC (.int 3)))) ((msSeq (msAsg (mLc (miSeq (mVar 6)) (mgName 8) (mYes) (m2 oSub (mCall (f__law_draw K Z) [] 2 (mCons (mVar 0) (mCons (mC (.int 3)) (mNil)))) (mN oInt (mCons (m2 oEq (mVar 5) (mC (.int 2))) (mNil)))) [8]) (mgName 7)) (msDrop (mApp (mVar 3) (mN oTuple (mCons (mLc (miO zpOp (mCons (mVar 6) (mCons (mVar 7) (mNil)))) (mgTup 2 (mgCons (mgName 8) (mgCons (mgName 9) (mgNil)))) (mYes) (mN oMax2 (mCons (mC (.int 0)) (mCons (m2 oPlus (mVar 8) (mVar 9)) (mNil)))) [8, 9]) (mNil))))))) ((msDrop (mApp (mVar 3) (mCall (f__law_amount K Z) [] 2 (mCons (mVar 0) (mCons (mVar 1) (mNil)))))))))))))
abbrev rowT (ns : List Int) : T := .tup (iL ns)
def foundM (acc : List (List Int)) : MO := .lst ((acc.map rowT).map D.t)
theorem vw_t (μ : Mu) (x : T) : vw μ (.t x) = some x := rfl
theorem vws_nil (μ : Mu) : vws μ [] = some [] := rfl
theorem vws_cons (μ : Mu) (d : D) (r : List D) : vws μ (d :: r) = (vw μ d).bind fun t => (vws μ r).map (t :: ·) := id rfl
theorem unT_nil : unT [] = some [] := rfl
theorem unT_cons (x : T) (r : List D) : unT (.t x :: r) = (unT r).map (x :: ·) := id rfl
theorem vw_found (s : DS) (acc : List (List Int)) : vw [dst s, foundM acc] (.r 1) = some (.lst (acc.map rowT)) := by
  show (unT ((acc.map rowT).map D.t)).map T.lst = _
  rw [unT_of]; rfl
theorem toPs_iL : ∀ ns : List Int, toP.toPs (iL ns) = some (ns.map PyData.int)
  | [] => rfl
  | n :: ns => by
    show (toP (.int n)).bind (fun d => (toP.toPs (iL ns)).map (d :: ·)) = _
    rw [toPs_iL ns]; rfl
abbrev rowP (ns : List Int) : PyData := .tuple (ns.map PyData.int)
theorem toP_row (ns : List Int) : toP (rowT ns) = some (rowP ns) := by
  show (toP.toPs (iL ns)).map PyData.tuple = _
  rw [toPs_iL]; rfl
theorem toPs_rows : ∀ acc : List (List Int), toP.toPs (acc.map rowT) = some (acc.map rowP)
  | [] => rfl
  | ns :: acc => by
    show (toP (rowT ns)).bind (fun d => (toP.toPs (acc.map rowT)).map (d :: ·)) = _
    rw [toP_row, toPs_rows acc]; rfl
theorem lay_ints : ∀ ns : List Int, PyData.canLayAll0 (ns.map PyData.int) = true
  | [] => by simp [PyData.canLayAll0]
  | n :: ns => by simp [PyData.canLayAll0, PyData.canLay0, lay_ints ns]
theorem dep_ints : ∀ ns : List Int, PyData.depthAll (ns.map PyData.int) = 0
  | [] => by simp [PyData.depthAll]
  | n :: ns => by simp [PyData.depthAll, PyData.depth, dep_ints ns]
theorem lay_row (ns : List Int) : (rowP ns).canLay0 = true := by simp [PyData.canLay0, lay_ints]
theorem dep_row (ns : List Int) : (rowP ns).depth = 1 := by simp [PyData.depth, dep_ints]
theorem lay_rows : ∀ acc : List (List Int), PyData.canLayAll0 (acc.map rowP) = true
  | [] => by simp [PyData.canLayAll0]
  | n :: ns => by simp [PyData.canLayAll0, PyData.canLay0, lay_ints, lay_rows ns]
theorem dep_rows : ∀ acc : List (List Int), PyData.depthAll (acc.map rowP) ≤ 1
  | [] => by simp [PyData.depthAll]
  | n :: ns => by
    have := dep_rows ns
    simp [PyData.depthAll, PyData.depth, dep_ints]; omega
theorem dat_row (ns : List Int) : dat (rowT ns) = some (rowP ns) := by
  unfold dat
  rw [toP_row]
  show (if SeqAt.shaped (rowP ns) = true then some (rowP ns) else none) = _
  rw [if_pos (by unfold SeqAt.shaped; rw [lay_row, dep_row]; rfl)]
theorem dat_rows (acc : List (List Int)) : dat (.lst (acc.map rowT)) = some (.list (acc.map rowP)) := by
  have h : toP (.lst (acc.map rowT)) = some (.list (acc.map rowP)) := by
    show (toP.toPs (acc.map rowT)).map PyData.list = _
    rw [toPs_rows]; rfl
  unfold dat
  rw [h]
  show (if SeqAt.shaped (.list (acc.map rowP)) = true then some (PyData.list (acc.map rowP)) else none) = _
  rw [if_pos]
  unfold SeqAt.shaped
  have h1 : (PyData.list (acc.map rowP)).canLay0 = true := by simp [PyData.canLay0, lay_rows]
  have h2 : (PyData.list (acc.map rowP)).depth ≤ 64 := by
    have := dep_rows acc
    simp [PyData.depth]; omega
  rw [h1, decide_eq_true h2]; rfl
theorem oNe_found (acc : List (List Int)) : oNe (.lst (acc.map rowT)) (.lst []) = some (.bl (!acc.isEmpty)) := by
  unfold oNe
  rw [dat_rows, show (T.lst []) = .lst (([] : List (List Int)).map rowT) from rfl, dat_rows]
  cases acc with
  | nil => simp [PyData.eqv, PyData.eqvAll]
  | cons a l => simp [PyData.eqv, PyData.eqvAll]
theorem app_found {s s' : DS} {acc : List (List Int)} {ns : List Int} {ga : Sx} {ρ : En} (h0 : ρ[3]? = some (some (.r 1))) (hz : acc.length ≤ 1000) (hg : ga ρ [dst s, foundM acc] = .ok (.t (rowT ns)) [dst s', foundM acc]) : mApp (mVar 3) ga ρ [dst s, foundM acc] = .ok (.t .non) [dst s', foundM (acc ++ [ns])] := by
  have hzl : (List.map D.t (List.map rowT acc)).length < sizeLine := by
    have := le_size (n := acc.length + 1) (by omega)
    simp; omega
  have h1 : mVar 3 ρ [dst s, foundM acc] = .ok (.r 1) [dst s, foundM acc] := by unfold mVar; rw [h0]
  rw [mApp_ev h1 (l0 := (acc.map rowT).map D.t) rfl hg (l := (acc.map rowT).map D.t) rfl hzl]
  show Sr.ok (D.t .non) [dst s', .lst ((acc.map rowT).map D.t ++ [D.t (rowT ns)])] = _
  unfold foundM
  rw [List.map_append, List.map_append]; rfl
theorem turnA {m many : Nat} {sz : Int} {b : Int} {s : DS} {acc : List (List Int)} {o4 o5 o6 o7 o8 o9 : Option D} (hm : many ≤ 3) (hb : 1000000000 ≤ b) (ha : ∀ ns ∈ acc, AmB b many ns) (hz : acc.length ≤ 1000) (h : DV (m + 8) s) :
    ∃ ns s' o5' o6' o7' o8' o9', bodyA K Z [some (.r 0), some (.t (.int many)), some (.t (.int sz)), some (.r 1), o4, o5, o6, o7, o8, o9] [dst s, foundM acc] = some (.nx [some (.r 0), some (.t (.int many)), some (.t (.int sz)), some (.r 1), o4, o5', o6', o7', o8', o9'] [dst s', foundM (acc ++ [ns])]) ∧ AmB (b + 2) many ns ∧ DV m s' := by
  have hv := fun s => vw_found s acc
  have hne := oNe_found acc
  have new : ∀ (s1 : DS) (o5 o6 : Option D), DV (m + 6) s1 → ∃ ns s', mApp (mVar 3) (mCall (f__law_amount K Z) [] 2 (mCons (mVar 0) (mCons (mVar 1) (mNil)))) [some (.r 0), some (.t (.int many)), some (.t (.int sz)), some (.r 1), o4, o5, o6, o7, o8, o9] [dst s1, foundM acc] = .ok (.t .non) [dst s', foundM (acc ++ [ns])] ∧ AmB (b + 2) many ns ∧ DV m s' := by
    intro s1 o5 o6 h1
    obtain ⟨ns, s', e, h2, h3⟩ := amount_call (K := K) (Z := Z) (m := m) hm (h1.mono (by omega))
    exact ⟨ns, s', app_found rfl hz (by simp [outM, ap_mP, ap_mC, ap_mVar, ap_m1, ap_m2, ap_mN, ap_mIx, ap_mNil, ap_mCons, ap_mLst, ap_mLstR, ap_mTup, ap_mTru, ap_mBl, ap_mAndT, ap_mOrT, ap_mNotT, ap_mIf, ap_mAndV, ap_mOrV, ap_mNotV, ap_moNone, ap_moSome, ap_mSl, ap_mgName, ap_mgNil, ap_mgCons, ap_mgTup, ap_mgSub, ap_mYes, ap_msNext, ap_msSeq, ap_msRet, ap_msRetF, ap_msRetN, ap_msIf, ap_msAsg, ap_msBrk, ap_msCnt, ap_msDrop, ap_msFz, ap_mCallP, ap_mErrF, ap_mFz, ap_mD1, ap_msBad, ap_msPar, mCall_eq, sb_ok, sb_er, sl_ok, sl_er, so_ok, sn_ok, vw_t, vws_nil, vws_cons, unT_nil, unT_cons, sq1, sq2, ln1, ln2, tr1, tr2, oEq_int, oI, blD, Zy.intD, frz, szB, e]), ⟨h2.1, fun n hn => by have := h2.2 n hn; omega⟩, h3⟩
  by_cases he : acc = []
  · subst he
    simp at hne
    obtain ⟨ns, s', e, h1, h2⟩ := new s (some (.t (.int 5))) (some (.t (.tup []))) (h.mono (by omega))
    exact ⟨ns, s', some (.t (.int 5)), some (.t (.tup [])), o7, o8, o9, by simp [bodyA, outM, ap_mP, ap_mC, ap_mVar, ap_m1, ap_m2, ap_mN, ap_mIx, ap_mNil, ap_mCons, ap_mLst, ap_mLstR, ap_mTup, ap_mTru, ap_mBl, ap_mAndT, ap_mOrT, ap_mNotT, ap_mIf, ap_mAndV, ap_mOrV, ap_mNotV, ap_moNone, ap_moSome, ap_mSl, ap_mgName, ap_mgNil, ap_mgCons, ap_mgTup, ap_mgSub, ap_mYes, ap_msNext, ap_msSeq, ap_msRet, ap_msRetF, ap_msRetN, ap_msIf, ap_msAsg, ap_msBrk, ap_msCnt, ap_msDrop, ap_msFz, ap_mCallP, ap_mErrF, ap_mFz, ap_mD1, ap_msBad, ap_msPar, mCall_eq, sb_ok, sb_er, sl_ok, sl_er, so_ok, sn_ok, vw_t, vws_nil, vws_cons, unT_nil, unT_cons, sq1, sq2, ln1, ln2, tr1, tr2, oEq_int, oI, blD, Zy.intD, frz, szB, hv, hne, sizeLine_eq, e], h1, h2⟩
  · have hie : acc.isEmpty = false := by simpa using he
    rw [hie] at hne
    obtain ⟨way, s1, e1, w0, w1, d1⟩ := draw_call (K := K) (Z := Z) (n := 6) (m := m + 7) h (by decide) (by decide)
    have e1' := e1 [foundM acc]
    have old : ∀ w : Int, 3 ≤ w → way = w → ∃ ns s' o5' o6' o7' o8' o9', bodyA K Z [some (.r 0), some (.t (.int many)), some (.t (.int sz)), some (.r 1), o4, o5, o6, o7, o8, o9] [dst s, foundM acc] = some (.nx [some (.r 0), some (.t (.int many)), some (.t (.int sz)), some (.r 1), o4, o5', o6', o7', o8', o9'] [dst s', foundM (acc ++ [ns])]) ∧ AmB (b + 2) many ns ∧ DV m s' := by
      intro w hw ew
      subst ew
      obtain ⟨ns, s', e, h1, h2⟩ := new s1 (some (.t (.int way))) (some (.t (.tup []))) (d1.mono (by omega))
      have c1 : ¬ way < 3 := by omega
      have c2 : ¬ way = 0 := by omega
      exact ⟨ns, s', some (.t (.int way)), some (.t (.tup [])), o7, o8, o9, by simp [bodyA, outM, ap_mP, ap_mC, ap_mVar, ap_m1, ap_m2, ap_mN, ap_mIx, ap_mNil, ap_mCons, ap_mLst, ap_mLstR, ap_mTup, ap_mTru, ap_mBl, ap_mAndT, ap_mOrT, ap_mNotT, ap_mIf, ap_mAndV, ap_mOrV, ap_mNotV, ap_moNone, ap_moSome, ap_mSl, ap_mgName, ap_mgNil, ap_mgCons, ap_mgTup, ap_mgSub, ap_mYes, ap_msNext, ap_msSeq, ap_msRet, ap_msRetF, ap_msRetN, ap_msIf, ap_msAsg, ap_msBrk, ap_msCnt, ap_msDrop, ap_msFz, ap_mCallP, ap_mErrF, ap_mFz, ap_mD1, ap_msBad, ap_msPar, mCall_eq, sb_ok, sb_er, sl_ok, sl_er, so_ok, sn_ok, vw_t, vws_nil, vws_cons, unT_nil, unT_cons, sq1, sq2, ln1, ln2, tr1, tr2, oEq_int, oI, blD, Zy.intD, frz, szB, hv, hne, sizeLine_eq, e1', c1, c2, e], h1, h2⟩
    have hw : way = 0 ∨ (way = 1 ∨ way = 2) ∨ 3 ≤ way := by omega
    rcases hw with rfl | hw | hw
    · obtain ⟨x, s2, e2, hx, d2⟩ := pick2 (K := K) (Z := Z) (m := m + 6) (l := acc.map rowT) d1 (by simpa using he) (by simp; omega)
      obtain ⟨ns, hns, rfl⟩ := List.mem_map.mp hx
      have e2' : callM (f__law_pick K Z) [] 2 [.r 0, .r 1] [dst s1, foundM acc] = .ok (.t (rowT ns)) [dst s2, foundM acc] := e2
      have ea := app_found (s := s2) (s' := s2) (ga := mVar 6) (ns := ns) (ρ := [some (.r 0), some (.t (.int many)), some (.t (.int sz)), some (.r 1), o4, some (.t (.int 0)), some (.t (rowT ns)), o7, o8, o9]) rfl hz (by simp [outM, ap_mP, ap_mC, ap_mVar, ap_m1, ap_m2, ap_mN, ap_mIx, ap_mNil, ap_mCons, ap_mLst, ap_mLstR, ap_mTup, ap_mTru, ap_mBl, ap_mAndT, ap_mOrT, ap_mNotT, ap_mIf, ap_mAndV, ap_mOrV, ap_mNotV, ap_moNone, ap_moSome, ap_mSl, ap_mgName, ap_mgNil, ap_mgCons, ap_mgTup, ap_mgSub, ap_mYes, ap_msNext, ap_msSeq, ap_msRet, ap_msRetF, ap_msRetN, ap_msIf, ap_msAsg, ap_msBrk, ap_msCnt, ap_msDrop, ap_msFz, ap_mCallP, ap_mErrF, ap_mFz, ap_mD1, ap_msBad, ap_msPar, mCall_eq, sb_ok, sb_er, sl_ok, sl_er, so_ok, sn_ok, vw_t, vws_nil, vws_cons, unT_nil, unT_cons, sq1, sq2, ln1, ln2, tr1, tr2, oEq_int, oI, blD, Zy.intD, frz, szB])
      exact ⟨ns, s2, some (.t (.int 0)), some (.t (rowT ns)), o7, o8, o9, by simp [bodyA, outM, ap_mP, ap_mC, ap_mVar, ap_m1, ap_m2, ap_mN, ap_mIx, ap_mNil, ap_mCons, ap_mLst, ap_mLstR, ap_mTup, ap_mTru, ap_mBl, ap_mAndT, ap_mOrT, ap_mNotT, ap_mIf, ap_mAndV, ap_mOrV, ap_mNotV, ap_moNone, ap_moSome, ap_mSl, ap_mgName, ap_mgNil, ap_mgCons, ap_mgTup, ap_mgSub, ap_mYes, ap_msNext, ap_msSeq, ap_msRet, ap_msRetF, ap_msRetN, ap_msIf, ap_msAsg, ap_msBrk, ap_msCnt, ap_msDrop, ap_msFz, ap_mCallP, ap_mErrF, ap_mFz, ap_mD1, ap_msBad, ap_msPar, mCall_eq, sb_ok, sb_er, sl_ok, sl_er, so_ok, sn_ok, vw_t, vws_nil, vws_cons, unT_nil, unT_cons, sq1, sq2, ln1, ln2, tr1, tr2, oEq_int, oI, blD, Zy.intD, frz, szB, hv, hne, sizeLine_eq, e1', e2', ea], ⟨(ha ns hns).1, fun n hn => by have := (ha ns hns).2 n hn; omega⟩, d2.mono (by omega)⟩
    · obtain ⟨x, s2, e2, hx, d2⟩ := pick2 (K := K) (Z := Z) (m := m + 6) (l := acc.map rowT) d1 (by simpa using he) (by simp; omega)
      obtain ⟨ns, hns, rfl⟩ := List.mem_map.mp hx
      have e2' : callM (f__law_pick K Z) [] 2 [.r 0, .r 1] [dst s1, foundM acc] = .ok (.t (rowT ns)) [dst s2, foundM acc] := e2
      obtain ⟨hln, hbn⟩ := ha ns hns
      obtain ⟨ys, s3, e3, p3, d3⟩ := compM_drw (tg := mgName 8) (ge := m2 oSub (mCall (f__law_draw K Z) [] 2 (mCons (mVar 0) (mCons (mC (.int 3)) (mNil)))) (mN oInt (mCons (m2 oEq (mVar 5) (mC (.int 2))) (mNil)))) (ρ := [some (.r 0), some (.t (.int many)), some (.t (.int sz)), some (.r 1), o4, some (.t (.int way)), some (.t (rowT ns)), o7, none, o9]) (rest := [foundM acc]) (P := fun _ y => ∃ v, y = .int v ∧ (-1 ≤ v ∧ v ≤ 2)) (k := 1) (iL ns) [] m s2 (d2.mono (by simp; omega)) (fun x _ s m hs => by
        obtain ⟨v, s', e, h1, h2, h3⟩ := draw_call (K := K) (Z := Z) (n := 3) hs (by decide) (by decide)
        have e' := e [foundM acc]
        rcases hw with rfl | rfl
        · exact ⟨_, .int (v - 0), s', rfl, by simp [outM, ap_mP, ap_mC, ap_mVar, ap_m1, ap_m2, ap_mN, ap_mIx, ap_mNil, ap_mCons, ap_mLst, ap_mLstR, ap_mTup, ap_mTru, ap_mBl, ap_mAndT, ap_mOrT, ap_mNotT, ap_mIf, ap_mAndV, ap_mOrV, ap_mNotV, ap_moNone, ap_moSome, ap_mSl, ap_mgName, ap_mgNil, ap_mgCons, ap_mgTup, ap_mgSub, ap_mYes, ap_msNext, ap_msSeq, ap_msRet, ap_msRetF, ap_msRetN, ap_msIf, ap_msAsg, ap_msBrk, ap_msCnt, ap_msDrop, ap_msFz, ap_mCallP, ap_mErrF, ap_mFz, ap_mD1, ap_msBad, ap_msPar, mCall_eq, sb_ok, sb_er, sl_ok, sl_er, so_ok, sn_ok, vw_t, vws_nil, vws_cons, unT_nil, unT_cons, sq1, sq2, ln1, ln2, tr1, tr2, oEq_int, oI, blD, Zy.intD, frz, szB, e', oInt, Zy.gSub], ⟨_, rfl, by omega, by omega⟩, h3⟩
        · exact ⟨_, .int (v - 1), s', rfl, by simp [outM, ap_mP, ap_mC, ap_mVar, ap_m1, ap_m2, ap_mN, ap_mIx, ap_mNil, ap_mCons, ap_mLst, ap_mLstR, ap_mTup, ap_mTru, ap_mBl, ap_mAndT, ap_mOrT, ap_mNotT, ap_mIf, ap_mAndV, ap_mOrV, ap_mNotV, ap_moNone, ap_moSome, ap_mSl, ap_mgName, ap_mgNil, ap_mgCons, ap_mgTup, ap_mgSub, ap_mYes, ap_msNext, ap_msSeq, ap_msRet, ap_msRetF, ap_msRetN, ap_msIf, ap_msAsg, ap_msBrk, ap_msCnt, ap_msDrop, ap_msFz, ap_mCallP, ap_mErrF, ap_mFz, ap_mD1, ap_msBad, ap_msPar, mCall_eq, sb_ok, sb_er, sl_ok, sl_er, so_ok, sn_ok, vw_t, vws_nil, vws_cons, unT_nil, unT_cons, sq1, sq2, ln1, ln2, tr1, tr2, oEq_int, oI, blD, Zy.intD, frz, szB, e', oInt, Zy.gSub], ⟨_, rfl, by omega, by omega⟩, h3⟩)
      obtain ⟨ms, rfl, r3⟩ := iL_of p3
      have hl3 : ms.length = ns.length := by have := paired_len p3; simpa using this
      have hLc := mLc_ev (gi := miSeq (mVar 6)) (vs := [8]) (ρ := [some (.r 0), some (.t (.int many)), some (.t (.int sz)), some (.r 1), o4, some (.t (.int way)), some (.t (rowT ns)), o7, o8, o9]) (miSeq_ev (μ := [dst s2, foundM acc]) (t := rowT ns) rfl rfl) (by simp; exact le_size (by omega)) e3
      have hz2 := zpO_iL ns ms
      obtain ⟨ys, s4, e4, p4, d4⟩ := compM_drw (tg := mgTup 2 (mgCons (mgName 8) (mgCons (mgName 9) (mgNil)))) (ge := mN oMax2 (mCons (mC (.int 0)) (mCons (m2 oPlus (mVar 8) (mVar 9)) (mNil)))) (ρ := [some (.r 0), some (.t (.int many)), some (.t (.int sz)), some (.r 1), o4, some (.t (.int way)), some (.t (rowT ns)), some (.t (.lst (iL ms))), none, none]) (rest := [foundM acc]) (P := fun _ y => ∃ v, y = .int v ∧ (0 ≤ v ∧ v < b + 2)) (k := 0) ((ns.zip ms).map fun p => T.tup [.int p.1, .int p.2]) [] m s3 (by simpa using d3) (fun x hx s m hs => by
        obtain ⟨⟨u, v⟩, hp, rfl⟩ := List.mem_map.mp hx
        have hu := hbn u (List.of_mem_zip hp).1
        have hv' := r3 v (List.of_mem_zip hp).2
        refine ⟨_, _, s, rfl, by simp [outM, ap_mP, ap_mC, ap_mVar, ap_m1, ap_m2, ap_mN, ap_mIx, ap_mNil, ap_mCons, ap_mLst, ap_mLstR, ap_mTup, ap_mTru, ap_mBl, ap_mAndT, ap_mOrT, ap_mNotT, ap_mIf, ap_mAndV, ap_mOrV, ap_mNotV, ap_moNone, ap_moSome, ap_mSl, ap_mgName, ap_mgNil, ap_mgCons, ap_mgTup, ap_mgSub, ap_mYes, ap_msNext, ap_msSeq, ap_msRet, ap_msRetF, ap_msRetN, ap_msIf, ap_msAsg, ap_msBrk, ap_msCnt, ap_msDrop, ap_msFz, ap_mCallP, ap_mErrF, ap_mFz, ap_mD1, ap_msBad, ap_msPar, mCall_eq, sb_ok, sb_er, sl_ok, sl_er, so_ok, sn_ok, vw_t, vws_nil, vws_cons, unT_nil, unT_cons, sq1, sq2, ln1, ln2, tr1, tr2, oEq_int, oI, blD, Zy.intD, frz, szB, oMax2, oPlus]; rfl, ⟨_, rfl, ?_, ?_⟩, by simpa using hs⟩
        · split <;> omega
        · split <;> omega)
      obtain ⟨qs, rfl, r4⟩ := iL_of p4
      have hl4 : qs.length = many := by have := paired_len p4; simp at this; omega
      have hLz := mLc_ev (gi := miO zpOp (mCons (mVar 6) (mCons (mVar 7) mNil))) (vs := [8, 9]) (ρ := [some (.r 0), some (.t (.int many)), some (.t (.int sz)), some (.r 1), o4, some (.t (.int way)), some (.t (rowT ns)), some (.t (.lst (iL ms))), o8, o9]) (miO_ev (μ := [dst s3, foundM acc]) (ts := [rowT ns, .lst (iL ms)]) (l := (ns.zip ms).map fun p => T.tup [.int p.1, .int p.2]) rfl (by show some (zpO (iL ns) (iL ms)) = _; rw [hz2])) (by simp; exact le_size (by omega)) e4
      have ht := oTuple_l (l := iL qs) (by rw [List.length_map, hl4]; exact le_size (by omega))
      have ea := app_found (s := s3) (s' := s4) (acc := acc) (ga := mN oTuple (mCons (mLc (miO zpOp (mCons (mVar 6) (mCons (mVar 7) (mNil)))) (mgTup 2 (mgCons (mgName 8) (mgCons (mgName 9) (mgNil)))) (mYes) (mN oMax2 (mCons (mC (.int 0)) (mCons (m2 oPlus (mVar 8) (mVar 9)) (mNil)))) [8, 9]) (mNil))) (ns := qs) (ρ := [some (.r 0), some (.t (.int many)), some (.t (.int sz)), some (.r 1), o4, some (.t (.int way)), some (.t (rowT ns)), some (.t (.lst (iL ms))), o8, o9]) rfl hz (by simp [outM, ap_mP, ap_mC, ap_mVar, ap_m1, ap_m2, ap_mN, ap_mIx, ap_mNil, ap_mCons, ap_mLst, ap_mLstR, ap_mTup, ap_mTru, ap_mBl, ap_mAndT, ap_mOrT, ap_mNotT, ap_mIf, ap_mAndV, ap_mOrV, ap_mNotV, ap_moNone, ap_moSome, ap_mSl, ap_mgName, ap_mgNil, ap_mgCons, ap_mgTup, ap_mgSub, ap_mYes, ap_msNext, ap_msSeq, ap_msRet, ap_msRetF, ap_msRetN, ap_msIf, ap_msAsg, ap_msBrk, ap_msCnt, ap_msDrop, ap_msFz, ap_mCallP, ap_mErrF, ap_mFz, ap_mD1, ap_msBad, ap_msPar, mCall_eq, sb_ok, sb_er, sl_ok, sl_er, so_ok, sn_ok, vw_t, vws_nil, vws_cons, unT_nil, unT_cons, sq1, sq2, ln1, ln2, tr1, tr2, oEq_int, oI, blD, Zy.intD, frz, szB, hLz, ht])
      have c1 : way < 3 := by omega
      have c2 : ¬ way = 0 := by omega
      exact ⟨qs, s4, some (.t (.int way)), some (.t (rowT ns)), some (.t (.lst (iL ms))), o8, o9, by simp [bodyA, outM, ap_mP, ap_mC, ap_mVar, ap_m1, ap_m2, ap_mN, ap_mIx, ap_mNil, ap_mCons, ap_mLst, ap_mLstR, ap_mTup, ap_mTru, ap_mBl, ap_mAndT, ap_mOrT, ap_mNotT, ap_mIf, ap_mAndV, ap_mOrV, ap_mNotV, ap_moNone, ap_moSome, ap_mSl, ap_mgName, ap_mgNil, ap_mgCons, ap_mgTup, ap_mgSub, ap_mYes, ap_msNext, ap_msSeq, ap_msRet, ap_msRetF, ap_msRetN, ap_msIf, ap_msAsg, ap_msBrk, ap_msCnt, ap_msDrop, ap_msFz, ap_mCallP, ap_mErrF, ap_mFz, ap_mD1, ap_msBad, ap_msPar, mCall_eq, sb_ok, sb_er, sl_ok, sl_er, so_ok, sn_ok, vw_t, vws_nil, vws_cons, unT_nil, unT_cons, sq1, sq2, ln1, ln2, tr1, tr2, oEq_int, oI, blD, Zy.intD, frz, szB, hv, hne, sizeLine_eq, e1', c1, c2, e2', hLc, ea], ⟨hl4, r4⟩, d4⟩
    · exact old way hw rfl
end
end K1
set_option Elab.async false
set_option linter.all false
set_option maxRecDepth 100000
set_option maxHeartbeats 400000
namespace K1
open PySem PySem.Spec PyProof.Rows L2 Zy
section
variable {K : PySem.W.Frag} {Z : Ads}
theorem loopA {many : Nat} {sz : Int} (hm : many ≤ 3) : ∀ (l : List T) {m : Nat} {b : Int} {s : DS} {acc : List (List Int)} {o4 o5 o6 o7 o8 o9 : Option D}, 1000000000 ≤ b → (∀ ns ∈ acc, AmB b many ns) → acc.length + l.length ≤ 1000 → DV (m + 8 * l.length) s →
    ∃ rows s' ρ', forM' none (mgName 4) (bodyA K Z) (l.map D.t) [some (.r 0), some (.t (.int many)), some (.t (.int sz)), some (.r 1), o4, o5, o6, o7, o8, o9] [dst s, foundM acc] = some (.nx ρ' [dst s', foundM rows]) ∧ ρ'[3]? = some (some (.r 1)) ∧ (∀ ns ∈ rows, AmB (b + 2 * l.length) many ns) ∧ rows.length = acc.length + l.length ∧ DV m s'
  | [], m, b, s, acc, o4, o5, o6, o7, o8, o9, hb, ha, hz, h => ⟨acc, s, _, by rw [List.map_nil]; unfold forM'; rw [if_pos (show ckP none _ from trivial)], rfl, by simpa using ha, by simp, by simpa using h⟩
  | x :: l, m, b, s, acc, o4, o5, o6, o7, o8, o9, hb, ha, hz, h => by
    rw [List.length_cons] at hz h
    obtain ⟨ns, s1, p5, p6, p7, p8, p9, e, h1, h2⟩ := turnA (K := K) (Z := Z) (m := m + 8 * l.length) (sz := sz) (b := b) (o4 := some (.t x)) (o5 := o5) (o6 := o6) (o7 := o7) (o8 := o8) (o9 := o9) hm hb ha (by omega) (h.mono (by omega))
    obtain ⟨rows, s2, ρ', e2, h3, h4, h5, h6⟩ := loopA hm l (m := m) (b := b + 2) (s := s1) (acc := acc ++ [ns]) (o4 := some (.t x)) (o5 := p5) (o6 := p6) (o7 := p7) (o8 := p8) (o9 := p9) (by omega) (fun q hq => by
      rcases List.mem_append.mp hq with z | z
      · exact ⟨(ha q z).1, fun n hn => by have := (ha q z).2 n hn; omega⟩
      · rw [List.mem_singleton.mp z]; exact h1) (by simp; omega) h2
    refine ⟨rows, s2, ρ', ?_, h3, fun q hq => ⟨(h4 q hq).1, fun n hn => by have := (h4 q hq).2 n hn; rw [List.length_cons]; omega⟩, by rw [h5]; simp; omega, h6⟩
    rw [List.map_cons]
    unfold forM'
    rw [if_pos (show ckP none _ from trivial)]
    show (match bodyA K Z [some (.r 0), some (.t (.int many)), some (.t (.int sz)), some (.r 1), some (.t x), o5, o6, o7, o8, o9] [dst s, foundM acc] with
      | some (.nx ρ2 μ2) => forM' none (mgName 4) (bodyA K Z) (l.map D.t) ρ2 μ2
      | some (.ct ρ2 μ2) => forM' none (mgName 4) (bodyA K Z) (l.map D.t) ρ2 μ2
      | some (.bk ρ2 μ2) => some (.nx ρ2 μ2)
      | o => o) = _
    rw [e]
    exact e2
theorem frz_found {s : DS} {acc : List (List Int)} (hz : acc.length ≤ 1000) : frz [dst s, foundM acc] (.r 1) = some (.lst (acc.map rowT), [dst s, .dead]) := by
  show ((vwM (foundM acc)).bind fun t => if szB t = true then some (t, [dst s, foundM acc].set 1 .dead) else none) = _
  have hv : vwM (foundM acc) = some (.lst (acc.map rowT)) := by
    show (unT ((acc.map rowT).map D.t)).map T.lst = _
    rw [unT_of]; rfl
  rw [hv]
  show (if szB (.lst (acc.map rowT)) = true then _ else none) = _
  rw [if_pos (by show decide _ = true; simp; exact le_size (by omega))]; rfl
theorem amounts_ok {m many size : Nat} {s : DS} (hm : many ≤ 3) (hs : size ≤ 8) (h : DV (m + 8 * size) s) : ∃ (rows : List (List Int)) (s' : DS), f__law_amounts K Z [.r 0, .t (.int many), .t (.int size)] [dst s] = .ok (.t (.lst (rows.map rowT))) [dst s', .dead] ∧ rows.length = size ∧ (∀ ns ∈ rows, Amt many ns) ∧ DV m s' := by
  obtain ⟨rows, s', ρ', e, h1, h2, h3, h4⟩ := loopA (K := K) (Z := Z) (many := many) (sz := size) hm ((List.range size).map fun i => T.int (i : Nat)) (m := m) (b := 1000000000) (s := s) (acc := []) (o4 := none) (o5 := none) (o6 := none) (o7 := none) (o8 := none) (o9 := none) (by decide) (fun _ h => nomatch h) (by simp; omega) (by simpa using h)
  simp at h2 h3
  refine ⟨rows, s', runM_ev (ρ := [some (.r 0), some (.t (.int many)), some (.t (.int size)), none, none, none, none, none, none, none]) (o := some (.rt (.t (.lst (rows.map rowT))) [dst s', .dead])) rfl ?_ rfl, h3, fun ns hn => ⟨(h2 ns hn).1, fun n hn' => by have := (h2 ns hn).2 n hn'; omega⟩, h4⟩
  have hi := miO_ev (gs := mCons (mVar 2) mNil) (ρ := [some (.r 0), some (.t (.int many)), some (.t (.int size)), some (.r 1), none, none, none, none, none, none]) (μ := [dst s, foundM []]) (ts := [.int size]) rfl (ints1_n (n := size) (by omega))
  show msSeq (msAsg (mLstR mNil) (mgName 3)) (msSeq (msFor (miO Zy.ints1 (mCons (mVar 2) mNil)) (mgName 4) (bodyA K Z)) (msRetF (mVar 3))) _ _ = _
  have h0 : msAsg (mLstR mNil) (mgName 3) [some (.r 0), some (.t (.int many)), some (.t (.int size)), none, none, none, none, none, none, none] [dst s] = some (.nx [some (.r 0), some (.t (.int many)), some (.t (.int size)), some (.r 1), none, none, none, none, none, none] [dst s, foundM []]) := by
    simp [outM, ap_mP, ap_mC, ap_mVar, ap_m1, ap_m2, ap_mN, ap_mIx, ap_mNil, ap_mCons, ap_mLst, ap_mLstR, ap_mTup, ap_mTru, ap_mBl, ap_mAndT, ap_mOrT, ap_mNotT, ap_mIf, ap_mAndV, ap_mOrV, ap_mNotV, ap_moNone, ap_moSome, ap_mSl, ap_mgName, ap_mgNil, ap_mgCons, ap_mgTup, ap_mgSub, ap_mYes, ap_msNext, ap_msSeq, ap_msRet, ap_msRetF, ap_msRetN, ap_msIf, ap_msAsg, ap_msBrk, ap_msCnt, ap_msDrop, ap_msFz, ap_mCallP, ap_mErrF, ap_mFz, ap_mD1, ap_msBad, ap_msPar, mCall_eq, sb_ok, sb_er, sl_ok, sl_er, so_ok, sn_ok, vw_t, vws_nil, vws_cons, unT_nil, unT_cons, sq1, sq2, ln1, ln2, tr1, tr2, oEq_int, oI, blD, Zy.intD, frz, szB, sizeLine_eq, foundM]
  have h5 : msFor (miO Zy.ints1 (mCons (mVar 2) mNil)) (mgName 4) (bodyA K Z) [some (.r 0), some (.t (.int many)), some (.t (.int size)), some (.r 1), none, none, none, none, none, none] [dst s, foundM []] = some (.nx ρ' [dst s', foundM rows]) := by
    rw [ap_msFor, hi, sl_ok]; exact e
  rw [sq_nx _ _ _ _ _ _ h0, sq_nx _ _ _ _ _ _ h5, ap_msRetF]
  have h6 : mVar 3 ρ' [dst s', foundM rows] = .ok (.r 1) [dst s', foundM rows] := by unfold mVar; rw [h1]
  rw [h6, sl_ok, frz_found (by omega)]; rfl
theorem amounts_call {m many size : Nat} {s : DS} (hm : many ≤ 3) (hs : size ≤ 8) (h : DV (m + 8 * size) s) : ∃ (rows : List (List Int)) (s' : DS), (∀ rest, callM (f__law_amounts K Z) [] 3 [.r 0, .t (.int many), .t (.int size)] (dst s :: rest) = .ok (.t (.lst (rows.map rowT))) (dst s' :: rest)) ∧ rows.length = size ∧ (∀ ns ∈ rows, Amt many ns) ∧ DV m s' := by
  obtain ⟨rows, s', e, h1, h2, h3⟩ := amounts_ok (K := K) (Z := Z) hm hs h
  exact ⟨rows, s', fun rest => callD (ts := [.int many, .int size]) e rfl rfl rfl rest, h1, h2, h3⟩
/-! ### the source -/
theorem loopS {ns : List Int} {place : Nat} {c : Int} : ∀ (l : List Int) {seed : Int} {o4 : Option D}, 0 ≤ seed → ∃ seed' o4', forM' none (mgName 4) (msAsg (m2 oMod (mN oInt (mCons (m2 oPlus (m2 oTimesX (mVar 3) (mC (.int 37))) (mVar 4)) (mNil))) (mC (.int 2147483629))) (mgName 3)) ((iL l).map D.t) [some (.t (.scr (iL ns))), some (.t (.int place)), some (.t (.int c)), some (.t (.int seed)), o4] [] = some (.nx [some (.t (.scr (iL ns))), some (.t (.int place)), some (.t (.int c)), some (.t (.int seed')), o4'] []) ∧ 0 ≤ seed'
  | [], seed, o4, h => ⟨seed, o4, by rw [show (iL []).map D.t = [] from rfl]; unfold forM'; rw [if_pos (show ckP none _ from trivial)], h⟩
  | x :: l, seed, o4, h => by
    have hc : CMul seed 37 ∨ CMulW seed 37 := .inl (.inr ⟨by decide, by decide⟩)
    obtain ⟨seed', o4', e, h1⟩ := loopS (ns := ns) (place := place) (c := c) l (seed := (seed * 37 + x) % 2147483629) (o4 := some (.t (.int x))) (Int.emod_nonneg _ (by decide))
    refine ⟨seed', o4', ?_, h1⟩
    rw [show (iL (x :: l)).map D.t = D.t (.int x) :: (iL l).map D.t from rfl]
    unfold forM'
    rw [if_pos (show ckP none _ from trivial)]
    have hb : msAsg (m2 oMod (mN oInt (mCons (m2 oPlus (m2 oTimesX (mVar 3) (mC (.int 37))) (mVar 4)) (mNil))) (mC (.int 2147483629))) (mgName 3) [some (.t (.scr (iL ns))), some (.t (.int place)), some (.t (.int c)), some (.t (.int seed)), some (.t (.int x))] [] = some (.nx [some (.t (.scr (iL ns))), some (.t (.int place)), some (.t (.int c)), some (.t (.int ((seed * 37 + x) % 2147483629))), some (.t (.int x))] []) := by
      simp [outM, ap_mP, ap_mC, ap_mVar, ap_m1, ap_m2, ap_mN, ap_mIx, ap_mNil, ap_mCons, ap_mLst, ap_mLstR, ap_mTup, ap_mTru, ap_mBl, ap_mAndT, ap_mOrT, ap_mNotT, ap_mIf, ap_mAndV, ap_mOrV, ap_mNotV, ap_moNone, ap_moSome, ap_mSl, ap_mgName, ap_mgNil, ap_mgCons, ap_mgTup, ap_mgSub, ap_mYes, ap_msNext, ap_msSeq, ap_msRet, ap_msRetF, ap_msRetN, ap_msIf, ap_msAsg, ap_msBrk, ap_msCnt, ap_msDrop, ap_msFz, ap_mCallP, ap_mErrF, ap_mFz, ap_mD1, ap_msBad, ap_msPar, mCall_eq, sb_ok, sb_er, sl_ok, sl_er, so_ok, sn_ok, vw_t, vws_nil, vws_cons, unT_nil, unT_cons, sq1, sq2, ln1, ln2, tr1, tr2, oEq_int, oI, blD, Zy.intD, frz, szB, oInt, oPlus, oTimesX, hc]
    show (match msAsg _ _ [some (.t (.scr (iL ns))), some (.t (.int place)), some (.t (.int c)), some (.t (.int seed)), some (.t (.int x))] [] with
      | some (.nx ρ2 μ2) => forM' none (mgName 4) _ ((iL l).map D.t) ρ2 μ2
      | some (.ct ρ2 μ2) => forM' none (mgName 4) _ ((iL l).map D.t) ρ2 μ2
      | some (.bk ρ2 μ2) => some (.nx ρ2 μ2)
      | o => o) = _
    rw [hb]
    exact e
theorem slice1 (ns : List Int) (hz : ns.length ≤ 1000) : slT none (some 1) (.scr (iL ns)) = some (.lst ((iL ns).take 1)) := by
  unfold slT
  show ((szL (iL ns)).map fun l => T.lst (cutT l none (some 1))) = _
  unfold szL
  rw [if_pos (by rw [List.length_map]; exact le_size (by omega))]
  show some (T.lst (cutT (iL ns) none (some 1))) = _
  unfold cutT
  cases ns with
  | nil => rfl
  | cons n ns => simp [HT.sIx]
theorem sum1 (ns : List Int) : ∃ v : Int, oSum [.lst ((iL ns).take 1)] = some (.int v) := by
  cases ns with
  | nil => exact ⟨0, rfl⟩
  | cons n ns => exact ⟨n + 0, by show some (T.int [n].sum) = _; simp⟩
theorem source_ok (ns : List Int) (place : Nat) (hz : ns.length ≤ 1000) (hp : place ≤ 1000) : ∃ s, f__law_source K Z [.t (.scr (iL ns)), .t (.int place)] [] = .ok (.r 0) [dst s] ∧ ∀ m ≤ 1000000, DV m s := by
  have hcell : ∃ c : Int, mIf (mBl (m2 oLt (mVar 1) (mN oLen (mCons (mVar 0) (mNil))))) (mIx (mVar 0) (mVar 1)) (m2 oPlus (m2 oPlus (m2 oMod (mN oInt (mCons (mN oSum (mCons (mSl (mVar 0) (moNone) (moSome (mC (.int 1)))) (mNil))) (mNil))) (mC (.int 1000003))) (m2 oTimesX (mC (.int 13)) (mVar 1))) (mC (.int 3))) [some (.t (.scr (iL ns))), some (.t (.int place)), none, none, none] [] = .ok (.t (.int c)) [] := by
    have hO : oLen [.scr (iL ns)] = some (.int ns.length) := by show some (T.int ((iL ns).length : Nat)) = _; simp
    by_cases h : (place : Int) < ns.length
    · obtain ⟨x, ex, _⟩ := atI_nn (l := ns) (v := place) (by omega) h
      have h2 : (seqT (.scr (iL ns))) = some (iL ns) := rfl
      exact ⟨x, by simp [outM, ap_mP, ap_mC, ap_mVar, ap_m1, ap_m2, ap_mN, ap_mIx, ap_mNil, ap_mCons, ap_mLst, ap_mLstR, ap_mTup, ap_mTru, ap_mBl, ap_mAndT, ap_mOrT, ap_mNotT, ap_mIf, ap_mAndV, ap_mOrV, ap_mNotV, ap_moNone, ap_moSome, ap_mSl, ap_mgName, ap_mgNil, ap_mgCons, ap_mgTup, ap_mgSub, ap_mYes, ap_msNext, ap_msSeq, ap_msRet, ap_msRetF, ap_msRetN, ap_msIf, ap_msAsg, ap_msBrk, ap_msCnt, ap_msDrop, ap_msFz, ap_mCallP, ap_mErrF, ap_mFz, ap_mD1, ap_msBad, ap_msPar, mCall_eq, sb_ok, sb_er, sl_ok, sl_er, so_ok, sn_ok, itS, vw, vws, vwM, unT, sq1, sq2, ln1, ln2, tr1, tr2, oEq_int, oI, blD, Zy.intD, frz, szB, hO, h, h2, atI_map, ex]⟩
    · obtain ⟨v, hv⟩ := sum1 ns
      have h1 := slice1 ns hz
      have hc : CMul 13 (place : Int) ∨ CMulW 13 (place : Int) := .inl (.inl ⟨by decide, by decide⟩)
      exact ⟨_, by simp [outM, ap_mP, ap_mC, ap_mVar, ap_m1, ap_m2, ap_mN, ap_mIx, ap_mNil, ap_mCons, ap_mLst, ap_mLstR, ap_mTup, ap_mTru, ap_mBl, ap_mAndT, ap_mOrT, ap_mNotT, ap_mIf, ap_mAndV, ap_mOrV, ap_mNotV, ap_moNone, ap_moSome, ap_mSl, ap_mgName, ap_mgNil, ap_mgCons, ap_mgTup, ap_mgSub, ap_mYes, ap_msNext, ap_msSeq, ap_msRet, ap_msRetF, ap_msRetN, ap_msIf, ap_msAsg, ap_msBrk, ap_msCnt, ap_msDrop, ap_msFz, ap_mCallP, ap_mErrF, ap_mFz, ap_mD1, ap_msBad, ap_msPar, mCall_eq, sb_ok, sb_er, sl_ok, sl_er, so_ok, sn_ok, itS, vw, vws, vwM, unT, sq1, sq2, ln1, ln2, tr1, tr2, oEq_int, oI, blD, Zy.intD, frz, szB, hO, h, h1, hv, oInt, oPlus, oTimesX, hc]; rfl⟩
  obtain ⟨c, hc⟩ := hcell
  obtain ⟨seed', o4', e, hs⟩ := loopS (ns := ns) (place := place) (c := c) ns (seed := 7919 * place + 17) (o4 := none) (by omega)
  have hp18 : oPow (.int 10) (.int 18) = some (.int 1000000000000000000) := pow_of ⟨by decide, by decide, by decide⟩ (by decide)
  have h1 : msAsg (mIf (mBl (m2 oLt (mVar 1) (mN oLen (mCons (mVar 0) (mNil))))) (mIx (mVar 0) (mVar 1)) (m2 oPlus (m2 oPlus (m2 oMod (mN oInt (mCons (mN oSum (mCons (mSl (mVar 0) (moNone) (moSome (mC (.int 1)))) (mNil))) (mNil))) (mC (.int 1000003))) (m2 oTimesX (mC (.int 13)) (mVar 1))) (mC (.int 3)))) (mgName 2) [some (.t (.scr (iL ns))), some (.t (.int place)), none, none, none] [] = some (.nx [some (.t (.scr (iL ns))), some (.t (.int place)), some (.t (.int c)), none, none] []) := by
    rw [ap_msAsg, hc, sl_ok]; rfl
  have hm1 : CMul 7919 (place : Int) ∨ CMulW 7919 (place : Int) := .inl (.inl ⟨by decide, by decide⟩)
  have h2 : msAsg (m2 oPlus (m2 oTimesX (mC (.int 7919)) (mVar 1)) (mC (.int 17))) (mgName 3) [some (.t (.scr (iL ns))), some (.t (.int place)), some (.t (.int c)), none, none] [] = some (.nx [some (.t (.scr (iL ns))), some (.t (.int place)), some (.t (.int c)), some (.t (.int (7919 * place + 17))), none] []) := by
    simp [outM, ap_mP, ap_mC, ap_mVar, ap_m1, ap_m2, ap_mN, ap_mIx, ap_mNil, ap_mCons, ap_mLst, ap_mLstR, ap_mTup, ap_mTru, ap_mBl, ap_mAndT, ap_mOrT, ap_mNotT, ap_mIf, ap_mAndV, ap_mOrV, ap_mNotV, ap_moNone, ap_moSome, ap_mSl, ap_mgName, ap_mgNil, ap_mgCons, ap_mgTup, ap_mgSub, ap_mYes, ap_msNext, ap_msSeq, ap_msRet, ap_msRetF, ap_msRetN, ap_msIf, ap_msAsg, ap_msBrk, ap_msCnt, ap_msDrop, ap_msFz, ap_mCallP, ap_mErrF, ap_mFz, ap_mD1, ap_msBad, ap_msPar, mCall_eq, sb_ok, sb_er, sl_ok, sl_er, so_ok, sn_ok, vw_t, vws_nil, vws_cons, unT_nil, unT_cons, sq1, sq2, ln1, ln2, tr1, tr2, oEq_int, oI, blD, Zy.intD, frz, szB, oPlus, oTimesX, hm1]
  have h3 : msFor (miSeq (mVar 0)) (mgName 4) (msAsg (m2 oMod (mN oInt (mCons (m2 oPlus (m2 oTimesX (mVar 3) (mC (.int 37))) (mVar 4)) (mNil))) (mC (.int 2147483629))) (mgName 3)) [some (.t (.scr (iL ns))), some (.t (.int place)), some (.t (.int c)), some (.t (.int (7919 * place + 17))), none] [] = some (.nx [some (.t (.scr (iL ns))), some (.t (.int place)), some (.t (.int c)), some (.t (.int seed')), o4'] []) := by
    rw [ap_msFor, miSeq_ev (t := .scr (iL ns)) (l := iL ns) (μ1 := []) rfl rfl, sl_ok]; exact e
  have hm2 : CMul 48271 c ∨ CMulW 48271 c := .inl (.inl ⟨by decide, by decide⟩)
  have fin : ∀ a : Int, 0 ≤ a → (mIf (mBl (m2 oGe (mVar 2) (m2 oPow (mC (.int 10)) (mC (.int 18))))) (mVar 2) (mC (.int 0)) [some (.t (.scr (iL ns))), some (.t (.int place)), some (.t (.int c)), some (.t (.int seed')), o4'] [] = .ok (.t (.int a)) []) → ∃ s, f__law_source K Z [.t (.scr (iL ns)), .t (.int place)] [] = .ok (.r 0) [dst s] ∧ ∀ m ≤ 1000000, DV m s := by
    intro a ha hi
    refine ⟨⟨a, (seed' + 48271 * c) % 2147483629, 0⟩, runM_ev (ρ := [some (.t (.scr (iL ns))), some (.t (.int place)), none, none, none]) (o := some (.rt (.r 0) [dst ⟨a, (seed' + 48271 * c) % 2147483629, 0⟩])) rfl ?_ rfl, fun m hm => ⟨ha, Int.emod_nonneg _ (by decide), Int.emod_lt_of_pos _ (by decide), by simp, by simp; omega⟩⟩
    unfold g__law_source
    rw [sq_nx _ _ _ _ _ _ h1, sq_nx _ _ _ _ _ _ h2, sq_nx _ _ _ _ _ _ h3]
    rw [ap_msRet, ap_mLstR, ap_mCons, hi]
    simp [outM, ap_mP, ap_mC, ap_mVar, ap_m1, ap_m2, ap_mN, ap_mIx, ap_mNil, ap_mCons, ap_mLst, ap_mLstR, ap_mTup, ap_mTru, ap_mBl, ap_mAndT, ap_mOrT, ap_mNotT, ap_mIf, ap_mAndV, ap_mOrV, ap_mNotV, ap_moNone, ap_moSome, ap_mSl, ap_mgName, ap_mgNil, ap_mgCons, ap_mgTup, ap_mgSub, ap_mYes, ap_msNext, ap_msSeq, ap_msRet, ap_msRetF, ap_msRetN, ap_msIf, ap_msAsg, ap_msBrk, ap_msCnt, ap_msDrop, ap_msFz, ap_mCallP, ap_mErrF, ap_mFz, ap_mD1, ap_msBad, ap_msPar, mCall_eq, sb_ok, sb_er, sl_ok, sl_er, so_ok, sn_ok, vw_t, vws_nil, vws_cons, unT_nil, unT_cons, sq1, sq2, ln1, ln2, tr1, tr2, oEq_int, oI, blD, Zy.intD, frz, szB, oInt, oPlus, oTimesX, hm2, sizeLine_eq]
  by_cases hg : (1000000000000000000 : Int) ≤ c
  · exact fin c (by omega) (by simp [outM, ap_mP, ap_mC, ap_mVar, ap_m1, ap_m2, ap_mN, ap_mIx, ap_mNil, ap_mCons, ap_mLst, ap_mLstR, ap_mTup, ap_mTru, ap_mBl, ap_mAndT, ap_mOrT, ap_mNotT, ap_mIf, ap_mAndV, ap_mOrV, ap_mNotV, ap_moNone, ap_moSome, ap_mSl, ap_mgName, ap_mgNil, ap_mgCons, ap_mgTup, ap_mgSub, ap_mYes, ap_msNext, ap_msSeq, ap_msRet, ap_msRetF, ap_msRetN, ap_msIf, ap_msAsg, ap_msBrk, ap_msCnt, ap_msDrop, ap_msFz, ap_mCallP, ap_mErrF, ap_mFz, ap_mD1, ap_msBad, ap_msPar, mCall_eq, sb_ok, sb_er, sl_ok, sl_er, so_ok, sn_ok, vw_t, vws_nil, vws_cons, unT_nil, unT_cons, sq1, sq2, ln1, ln2, tr1, tr2, oEq_int, oI, blD, Zy.intD, frz, szB, hp18, hg])
  · exact fin 0 (by omega) (by simp [outM, ap_mP, ap_mC, ap_mVar, ap_m1, ap_m2, ap_mN, ap_mIx, ap_mNil, ap_mCons, ap_mLst, ap_mLstR, ap_mTup, ap_mTru, ap_mBl, ap_mAndT, ap_mOrT, ap_mNotT, ap_mIf, ap_mAndV, ap_mOrV, ap_mNotV, ap_moNone, ap_moSome, ap_mSl, ap_mgName, ap_mgNil, ap_mgCons, ap_mgTup, ap_mgSub, ap_mYes, ap_msNext, ap_msSeq, ap_msRet, ap_msRetF, ap_msRetN, ap_msIf, ap_msAsg, ap_msBrk, ap_msCnt, ap_msDrop, ap_msFz, ap_mCallP, ap_mErrF, ap_mFz, ap_mD1, ap_msBad, ap_msPar, mCall_eq, sb_ok, sb_er, sl_ok, sl_er, so_ok, sn_ok, vw_t, vws_nil, vws_cons, unT_nil, unT_cons, sq1, sq2, ln1, ln2, tr1, tr2, oEq_int, oI, blD, Zy.intD, frz, szB, hp18, hg])
end
end K1
set_option Elab.async false
set_option linter.all false
set_option maxRecDepth 100000
set_option maxHeartbeats 400000
namespace K1
open PySem PySem.Spec PyProof.Rows L2 Zy
section
variable {P : Program} {w : World} {K : PySem.W.Frag} {mg : Str → Option Value} {base : Heap} {Z : Ads}
theorem runB_ev {n : Nat} {g : Gs} {ts : List T} {ρ : En} {o : Option Ou} {r : Pr T} (hρ : ts.map (fun t => some (.t t)) ++ List.replicate (n - ts.length) none = ρ) (hg : g ρ [] = o) (hr : outP o = r) : runB n g ts = r := by
  subst hρ hg hr; rfl
/-! ### kinds of things -/
inductive Knd (Z : Ads) : T → Prop where
  | non : Knd Z .non
  | bl (b : Bool) : Knd Z (.bl b)
  | int (i : Int) : Knd Z (.int i)
  | str (x : Str) : Knd Z (.str x)
  | lst (l : List T) : Knd Z (.lst l)
  | tup (l : List T) : Knd Z (.tup l)
  | dk (ks : List Key) (l : List T) : Knd Z (.dk ks l)
  | fn : Knd Z (.ob Z.o__law_dot)
  | ins (ns : List Str) (l : List T) : Knd Z (.ins Z.o_Program ns l)
def isL : T → Bool
  | .lst _ => true
  | .tup _ => true
  | _ => false
def isW : T → Bool
  | .int _ => true
  | _ => false
def isN : T → Bool
  | .int i => decide (0 ≤ i)
  | _ => false
theorem isi1 {t : T} {a n : String} {b : Bool} (h : tyT t = some a) (e : kitB a n = some b) : isiV K t (.ty n) = some b := by
  have h1 : Zy.tyV K t = some (.type a) := by cases t <;> first | (cases h; rfl) | cases h
  unfold isiV
  rw [h1]
  exact kit_ty e
theorem clsVs_ty : ∀ ns : List String, clsVs (ns.map T.ty) = some (ns.map Value.type)
  | [] => rfl
  | n :: ns => by
    show (clsV1 (.ty n)).bind (fun v => (clsVs (ns.map T.ty)).map (v :: ·)) = _
    rw [clsVs_ty ns]; rfl
theorem isiN {t : T} {a : String} {ns : List String} {b : Bool} (h : tyT t = some a) (e : isiB a ns = some b) : isiV K t (.tup (ns.map T.ty)) = some b := by
  have h1 : Zy.tyV K t = some (.type a) := by cases t <;> first | (cases h; rfl) | cases h
  unfold isiV
  rw [h1]
  show (clsVs (ns.map T.ty)).bind (fun us => PySem.W.kitAny K (.type a) us) = _
  rw [clsVs_ty]
  exact isi_kit e
theorem isi1F (X : Fx P w K mg base Z) {n : String} {b : Bool} (e : kitB "function" n = some b) : isiV K (.ob Z.o__law_dot) (.ty n) = some b := by
  unfold isiV
  rw [show Zy.tyV K (.ob Z.o__law_dot) = some (.type "function") from by simp only [Zy.tyV]; rw [if_pos X.t__law_dot]]
  exact kit_ty e
theorem isiNF (X : Fx P w K mg base Z) {ns : List String} {b : Bool} (e : isiB "function" ns = some b) : isiV K (.ob Z.o__law_dot) (.tup (ns.map T.ty)) = some b := by
  unfold isiV
  rw [show Zy.tyV K (.ob Z.o__law_dot) = some (.type "function") from by simp only [Zy.tyV]; rw [if_pos X.t__law_dot]]
  show (clsVs (ns.map T.ty)).bind (fun us => PySem.W.kitAny K (.type "function") us) = _
  rw [clsVs_ty]
  exact isi_kit e
theorem tyV_ins (X : Fx P w K mg base Z) (ns : List Str) (l : List T) : Zy.tyV K (.ins Z.o_Program ns l) = some (.ref Z.o_Program) := by
  simp only [Zy.tyV]; rw [if_pos X.f_Program]
theorem isi1P (X : Fx P w K mg base Z) {n : String} (ns : List Str) (l : List T) (h : PySem.W.kitOne K (.ref Z.o_Program) (.type n) = some false) : isiV K (.ins Z.o_Program ns l) (.ty n) = some false := by
  unfold isiV
  rw [tyV_ins X]
  exact h
theorem kitAny_no {t : Value} : ∀ {cs : List Value}, (∀ c ∈ cs, PySem.W.kitOne K t c = some false) → PySem.W.kitAny K t cs = some false
  | [], _ => rfl
  | c :: cs, h => by
    unfold PySem.W.kitAny
    rw [h c List.mem_cons_self]
    exact kitAny_no fun d hd => h d (List.mem_cons_of_mem _ hd)
theorem isiNP (X : Fx P w K mg base Z) (ns : List Str) (l : List T) {ts : List String} (h : ∀ n ∈ ts, PySem.W.kitOne K (.ref Z.o_Program) (.type n) = some false) : isiV K (.ins Z.o_Program ns l) (.tup (ts.map T.ty)) = some false := by
  unfold isiV
  rw [tyV_ins X]
  show (clsVs (ts.map T.ty)).bind (fun us => PySem.W.kitAny K (.ref Z.o_Program) us) = _
  rw [clsVs_ty]
  exact kitAny_no fun c hc => by
    obtain ⟨n, hn, rfl⟩ := List.mem_map.mp hc
    exact h n hn
theorem isi_LT (X : Fx P w K mg base Z) {t : T} (k : Knd Z t) : isiV K t (.tup [.ty "list", .ty "tuple"]) = some (isL t) := by
  cases k with
  | fn => exact isiNF X (ns := ["list", "tuple"]) (b := false) (by decide +kernel)
  | ins ns l => exact isiNP X ns l (ts := ["list", "tuple"]) (by simp [X.k_Program_list, X.k_Program_tuple])
  | non => exact isiN (ns := ["list", "tuple"]) rfl (b := false) (by decide +kernel)
  | bl b => exact isiN (ns := ["list", "tuple"]) rfl (b := false) (by decide +kernel)
  | int b => exact isiN (ns := ["list", "tuple"]) rfl (b := false) (by decide +kernel)
  | str b => exact isiN (ns := ["list", "tuple"]) rfl (b := false) (by decide +kernel)
  | lst b => exact isiN (ns := ["list", "tuple"]) rfl (b := true) (by decide +kernel)
  | tup b => exact isiN (ns := ["list", "tuple"]) rfl (b := true) (by decide +kernel)
  | dk b c => exact isiN (ns := ["list", "tuple"]) rfl (b := false) (by decide +kernel)
def isIB : T → Bool
  | .int _ => true
  | .bl _ => true
  | _ => false
def isB : T → Bool
  | .bl _ => true
  | _ => false
theorem isi_int (X : Fx P w K mg base Z) {t : T} (k : Knd Z t) : isiV K t (.ty "int") = some (isIB t) := by
  cases k with
  | fn => exact isi1F X (b := false) (by decide +kernel)
  | ins ns l => exact isi1P X ns l X.k_Program_int
  | non => exact isi1 rfl (b := false) (by decide +kernel)
  | bl b => exact isi1 rfl (b := true) (by decide +kernel)
  | int b => exact isi1 rfl (b := true) (by decide +kernel)
  | str b => exact isi1 rfl (b := false) (by decide +kernel)
  | lst b => exact isi1 rfl (b := false) (by decide +kernel)
  | tup b => exact isi1 rfl (b := false) (by decide +kernel)
  | dk b c => exact isi1 rfl (b := false) (by decide +kernel)
theorem isi_bool (X : Fx P w K mg base Z) {t : T} (k : Knd Z t) : isiV K t (.ty "bool") = some (isB t) := by
  cases k with
  | fn => exact isi1F X (b := false) (by decide +kernel)
  | ins ns l => exact isi1P X ns l X.k_Program_bool
  | non => exact isi1 rfl (b := false) (by decide +kernel)
  | bl b => exact isi1 rfl (b := true) (by decide +kernel)
  | int b => exact isi1 rfl (b := false) (by decide +kernel)
  | str b => exact isi1 rfl (b := false) (by decide +kernel)
  | lst b => exact isi1 rfl (b := false) (by decide +kernel)
  | tup b => exact isi1 rfl (b := false) (by decide +kernel)
  | dk b c => exact isi1 rfl (b := false) (by decide +kernel)
theorem oIsi_of {x c : T} {b : Bool} (h : isiV K x c = some b) : oIsiX K [x, c] = some (.bl b) := by
  show (isiV K x c).map T.bl = _
  rw [h]; rfl
theorem is_list_ok (X : Fx P w K mg base Z) {t : T} (k : Knd Z t) : f_is_list K Z [t] = .ok (.bl (isL t)) :=
  runB_ev (ρ := [some (.t t)]) rfl (by simp [g_is_list, outP, ap_gVar, ap_gVarT, ap_g1, ap_g2, ap_gN, ap_gNil, ap_gCons, ap_gLst, ap_gTup, ap_gTru, ap_gBl, ap_gAndT, ap_gOrT, ap_gNotT, ap_gIf, ap_gAndV, ap_gOrV, ap_gNotV, ap_gCall, ap_goNone, ap_goSome, ap_gSl, ap_giSeq, ap_tgName, ap_tgNil, ap_tgCons, ap_tgTup, ap_gYes, ap_sNext, ap_sSeq, ap_sRet, ap_sRetN, ap_sIf, ap_sAsg, ap_sBrk, ap_sCnt, ap_sNever, ap_sDrop, ap_sRaise, ap_sPar, pb_ok, pb_er, po_ok, pn_ok, pl_ok, pl_er, blT, intT, szL, tr1, tr2, oEq_int, oI, vw_t, oIsi_of (isi_LT X k), sizeLine_eq]; rfl) rfl
theorem is_whole_ok (X : Fx P w K mg base Z) {t : T} (k : Knd Z t) : f_is_whole K Z [t] = .ok (.bl (isW t)) := by
  have h : ∀ b : Bool, (if isIB t = true then (if isB t = true then Pr.ok (T.bl false) else .ok (.bl true)) else .ok (.bl false)) = Pr.ok (.bl (isW t)) := fun _ => by cases k <;> rfl
  refine runB_ev (ρ := [some (.t t)]) (o := some (.rt (.bl (isW t)))) rfl ?_ rfl
  simp [g_is_whole, outP, ap_gVar, ap_gVarT, ap_g1, ap_g2, ap_gN, ap_gNil, ap_gCons, ap_gLst, ap_gTup, ap_gTru, ap_gBl, ap_gAndT, ap_gOrT, ap_gNotT, ap_gIf, ap_gAndV, ap_gOrV, ap_gNotV, ap_gCall, ap_goNone, ap_goSome, ap_gSl, ap_giSeq, ap_tgName, ap_tgNil, ap_tgCons, ap_tgTup, ap_gYes, ap_sNext, ap_sSeq, ap_sRet, ap_sRetN, ap_sIf, ap_sAsg, ap_sBrk, ap_sCnt, ap_sNever, ap_sDrop, ap_sRaise, ap_sPar, pb_ok, pb_er, po_ok, pn_ok, pl_ok, pl_er, blT, intT, szL, tr1, tr2, oEq_int, oI, vw_t, oIsi_of (isi_int X k), oIsi_of (isi_bool X k)]
  cases k <;> simp [isIB, isB, isW, outP, ap_gVar, ap_gVarT, ap_g1, ap_g2, ap_gN, ap_gNil, ap_gCons, ap_gLst, ap_gTup, ap_gTru, ap_gBl, ap_gAndT, ap_gOrT, ap_gNotT, ap_gIf, ap_gAndV, ap_gOrV, ap_gNotV, ap_gCall, ap_goNone, ap_goSome, ap_gSl, ap_giSeq, ap_tgName, ap_tgNil, ap_tgCons, ap_tgTup, ap_gYes, ap_sNext, ap_sSeq, ap_sRet, ap_sRetN, ap_sIf, ap_sAsg, ap_sBrk, ap_sCnt, ap_sNever, ap_sDrop, ap_sRaise, ap_sPar, pb_ok, pb_er, po_ok, pn_ok, pl_ok, pl_er, blT, intT, szL, tr1, tr2, oEq_int, oI, vw_t]
theorem is_natural_ok (X : Fx P w K mg base Z) {t : T} (k : Knd Z t) : f_is_natural K Z [t] = .ok (.bl (isN t)) := by
  refine runB_ev (ρ := [some (.t t)]) (o := some (.rt (.bl (isN t)))) rfl ?_ rfl
  simp [g_is_natural, outP, ap_gVar, ap_gVarT, ap_g1, ap_g2, ap_gN, ap_gNil, ap_gCons, ap_gLst, ap_gTup, ap_gTru, ap_gBl, ap_gAndT, ap_gOrT, ap_gNotT, ap_gIf, ap_gAndV, ap_gOrV, ap_gNotV, ap_gCall, ap_goNone, ap_goSome, ap_gSl, ap_giSeq, ap_tgName, ap_tgNil, ap_tgCons, ap_tgTup, ap_gYes, ap_sNext, ap_sSeq, ap_sRet, ap_sRetN, ap_sIf, ap_sAsg, ap_sBrk, ap_sCnt, ap_sNever, ap_sDrop, ap_sRaise, ap_sPar, pb_ok, pb_er, po_ok, pn_ok, pl_ok, pl_er, blT, intT, szL, tr1, tr2, oEq_int, oI, vw_t, is_whole_ok X k]
  cases k <;> simp [isW, isN, outP, ap_gVar, ap_gVarT, ap_g1, ap_g2, ap_gN, ap_gNil, ap_gCons, ap_gLst, ap_gTup, ap_gTru, ap_gBl, ap_gAndT, ap_gOrT, ap_gNotT, ap_gIf, ap_gAndV, ap_gOrV, ap_gNotV, ap_gCall, ap_goNone, ap_goSome, ap_gSl, ap_giSeq, ap_tgName, ap_tgNil, ap_tgCons, ap_tgTup, ap_gYes, ap_sNext, ap_sSeq, ap_sRet, ap_sRetN, ap_sIf, ap_sAsg, ap_sBrk, ap_sCnt, ap_sNever, ap_sDrop, ap_sRaise, ap_sPar, pb_ok, pb_er, po_ok, pn_ok, pl_ok, pl_er, blT, intT, szL, tr1, tr2, oEq_int, oI, vw_t]
end
end K1
set_option Elab.async false
set_option linter.all false
set_option maxRecDepth 100000
set_option maxHeartbeats 400000
namespace K1
open PySem PySem.Spec PyProof.Rows L2 Zy
section
variable {P : Program} {w : World} {K : PySem.W.Frag} {mg : Str → Option Value} {base : Heap} {Z : Ads}
theorem oNe_int (a b : Int) : oNe (.int a) (.int b) = some (.bl (!decide (a = b))) := by
  show some (T.bl (!PyData.eqv (.int a) (.int b))) = _
  rfl
theorem oNotIn_123 (n : Int) : oNotIn (.int n) (.tup [.int 1, .int 2, .int 3]) = some (.bl (!decide (n = 1 ∨ n = 2 ∨ n = 3))) := by
  have e : ∀ a : Int, ((a == n) = decide (n = a)) := fun a => by by_cases h : n = a <;> simp [h]; exact fun q => h q.symm
  simp [oNotIn, inB, inF, flT, flTs, sq2, inV, eqV, e]
def manyT : Option Nat → T
  | none => .non
  | some m => .int (m : Nat)
def isA (t : T) (many : Option Nat) : Bool := match t with
  | .lst l => decide (l.length = 1 ∨ l.length = 2 ∨ l.length = 3) && (match many with | some m => decide (l.length = m) | none => true) && l.all isN
  | .tup l => decide (l.length = 1 ∨ l.length = 2 ∨ l.length = 3) && (match many with | some m => decide (l.length = m) | none => true) && l.all isN
  | _ => false
theorem oAll_map {α : Type} (f : α → Bool) (l : List α) : oAll [.lst (l.map fun x => .bl (f x))] = some (.bl (l.all f)) := by
  show (bls _).map _ = _
  rw [bls_map]
  show some (T.bl _) = _
  rw [List.all_map]; rfl
theorem oAny_map {α : Type} (f : α → Bool) (l : List α) : oAny [.lst (l.map fun x => .bl (f x))] = some (.bl (l.any f)) := by
  show (bls _).map _ = _
  rw [bls_map]
  show some (T.bl _) = _
  rw [List.any_map]; rfl
theorem itm_of {t : T} {l : List T} (h : t = .lst l ∨ t = .tup l) : itmT t = some l := by rcases h with rfl | rfl <;> rfl
theorem amt_core (X : Fx P w K mg base Z) {t : T} {l : List T} (ht : t = .lst l ∨ t = .tup l) (ki : ∀ x ∈ l, Knd Z x) (m : Option Nat) : f_is_amount K Z [t, manyT m] = .ok (.bl (decide (l.length = 1 ∨ l.length = 2 ∨ l.length = 3) && (match m with | some m => decide (l.length = m) | none => true) && l.all isN)) := by
  have kt : Knd Z t := by rcases ht with rfl | rfl <;> constructor
  have hL : isL t = true := by rcases ht with rfl | rfl <;> rfl
  have hO : oLen [t] = some (.int l.length) := by rcases ht with rfl | rfl <;> rfl
  have hl := is_list_ok X kt
  rw [hL] at hl
  have h123 := oNotIn_123 l.length
  by_cases h3 : l.length = 1 ∨ l.length = 2 ∨ l.length = 3
  · have h3' : ((l.length : Nat) : Int) = 1 ∨ ((l.length : Nat) : Int) = 2 ∨ ((l.length : Nat) : Int) = 3 := by omega
    rw [decide_eq_true h3'] at h123
    have hLc : gLc (giSeq (gVar 0)) (tgName 2) gYes (gCall (f_is_natural K Z) [] (Zy.gCons (gVarT 2) gNil)) [2] [some (.t t), some (.t (manyT m)), none] [] = .ok (.lst (l.map fun x => .bl (isN x))) :=
      ev_lc (ev_seq (ev_var rfl rfl) (itm_of ht)) (le_size (by omega)) (by
        have := compO_mapG (tg := tgName 2) (ge := gCall (f_is_natural K Z) [] (Zy.gCons (gVarT 2) gNil)) (ρ := wipeE [some (.t t), some (.t (manyT m)), none] [2]) (μ := []) (i := fun x : T => x) (o := fun x => .bl (isN x)) l [] (fun x hx => ⟨_, rfl, ev_call (ev_cons rfl rfl) (is_natural_ok X (ki x hx))⟩)
        simpa using this)
    have hA := oAll_map isN l
    cases m with
    | none =>
      refine runB_ev (ρ := [some (.t t), some (.t .non), none]) (o := some (.rt (.bl (l.all isN)))) rfl ?_ (by simp [outP, h3])
      have hLc' : gLc (giSeq (gVar 0)) (tgName 2) gYes (gCall (f_is_natural K Z) [] (Zy.gCons (gVarT 2) gNil)) [2] [some (.t t), some (.t .non), none] [] = .ok (.lst (l.map fun x => .bl (isN x))) := hLc
      simp [g_is_amount, outP, ap_gVar, ap_gVarT, ap_g1, ap_g2, ap_gN, ap_gNil, ap_gCons, ap_gLst, ap_gTup, ap_gTru, ap_gBl, ap_gAndT, ap_gOrT, ap_gNotT, ap_gIf, ap_gAndV, ap_gOrV, ap_gNotV, ap_gCall, ap_goNone, ap_goSome, ap_gSl, ap_giSeq, ap_tgName, ap_tgNil, ap_tgCons, ap_tgTup, ap_gYes, ap_sNext, ap_sSeq, ap_sRet, ap_sRetN, ap_sIf, ap_sAsg, ap_sBrk, ap_sCnt, ap_sNever, ap_sDrop, ap_sRaise, ap_sPar, pb_ok, pb_er, po_ok, pn_ok, pl_ok, pl_er, blT, intT, szL, tr1, tr2, oEq_int, oI, vw_t, hl, hO, h123, hLc', hA, sizeLine_eq, oNotN, isNonT]
    | some k =>
      have hLc' : gLc (giSeq (gVar 0)) (tgName 2) gYes (gCall (f_is_natural K Z) [] (Zy.gCons (gVarT 2) gNil)) [2] [some (.t t), some (.t (.int k)), none] [] = .ok (.lst (l.map fun x => .bl (isN x))) := hLc
      have hne := oNe_int l.length k
      by_cases hk : l.length = k
      · have hk' : ((l.length : Nat) : Int) = (k : Int) := by omega
        rw [decide_eq_true hk'] at hne
        refine runB_ev (ρ := [some (.t t), some (.t (.int k)), none]) (o := some (.rt (.bl (l.all isN)))) rfl ?_ (by subst hk; simp [outP, h3])
        simp [g_is_amount, outP, ap_gVar, ap_gVarT, ap_g1, ap_g2, ap_gN, ap_gNil, ap_gCons, ap_gLst, ap_gTup, ap_gTru, ap_gBl, ap_gAndT, ap_gOrT, ap_gNotT, ap_gIf, ap_gAndV, ap_gOrV, ap_gNotV, ap_gCall, ap_goNone, ap_goSome, ap_gSl, ap_giSeq, ap_tgName, ap_tgNil, ap_tgCons, ap_tgTup, ap_gYes, ap_sNext, ap_sSeq, ap_sRet, ap_sRetN, ap_sIf, ap_sAsg, ap_sBrk, ap_sCnt, ap_sNever, ap_sDrop, ap_sRaise, ap_sPar, pb_ok, pb_er, po_ok, pn_ok, pl_ok, pl_er, blT, intT, szL, tr1, tr2, oEq_int, oI, vw_t, hl, hO, h123, hLc', hA, sizeLine_eq, oNotN, isNonT, hne]
      · have hk' : ¬ ((l.length : Nat) : Int) = (k : Int) := by omega
        rw [decide_eq_false hk'] at hne
        refine runB_ev (ρ := [some (.t t), some (.t (.int k)), none]) (o := some (.rt (.bl false))) rfl ?_ (by simp [outP, h3, hk])
        simp [g_is_amount, outP, ap_gVar, ap_gVarT, ap_g1, ap_g2, ap_gN, ap_gNil, ap_gCons, ap_gLst, ap_gTup, ap_gTru, ap_gBl, ap_gAndT, ap_gOrT, ap_gNotT, ap_gIf, ap_gAndV, ap_gOrV, ap_gNotV, ap_gCall, ap_goNone, ap_goSome, ap_gSl, ap_giSeq, ap_tgName, ap_tgNil, ap_tgCons, ap_tgTup, ap_gYes, ap_sNext, ap_sSeq, ap_sRet, ap_sRetN, ap_sIf, ap_sAsg, ap_sBrk, ap_sCnt, ap_sNever, ap_sDrop, ap_sRaise, ap_sPar, pb_ok, pb_er, po_ok, pn_ok, pl_ok, pl_er, blT, intT, szL, tr1, tr2, oEq_int, oI, vw_t, hl, hO, h123, sizeLine_eq, oNotN, isNonT, hne]
  · have h3' : ¬ (((l.length : Nat) : Int) = 1 ∨ ((l.length : Nat) : Int) = 2 ∨ ((l.length : Nat) : Int) = 3) := by omega
    rw [decide_eq_false h3'] at h123
    refine runB_ev (ρ := [some (.t t), some (.t (manyT m)), none]) (o := some (.rt (.bl false))) rfl ?_ (by simp [outP, h3])
    simp [g_is_amount, outP, ap_gVar, ap_gVarT, ap_g1, ap_g2, ap_gN, ap_gNil, ap_gCons, ap_gLst, ap_gTup, ap_gTru, ap_gBl, ap_gAndT, ap_gOrT, ap_gNotT, ap_gIf, ap_gAndV, ap_gOrV, ap_gNotV, ap_gCall, ap_goNone, ap_goSome, ap_gSl, ap_giSeq, ap_tgName, ap_tgNil, ap_tgCons, ap_tgTup, ap_gYes, ap_sNext, ap_sSeq, ap_sRet, ap_sRetN, ap_sIf, ap_sAsg, ap_sBrk, ap_sCnt, ap_sNever, ap_sDrop, ap_sRaise, ap_sPar, pb_ok, pb_er, po_ok, pn_ok, pl_ok, pl_er, blT, intT, szL, tr1, tr2, oEq_int, oI, vw_t, hl, hO, h123, sizeLine_eq]
theorem is_amount_ok (X : Fx P w K mg base Z) {t : T} (k : Knd Z t) (ki : ∀ l, seqT t = some l → ∀ x ∈ l, Knd Z x) (m : Option Nat) : f_is_amount K Z [t, manyT m] = .ok (.bl (isA t m)) := by
  have hl := is_list_ok X k
  cases k with
  | lst l => exact amt_core X (.inl rfl) (ki l rfl) m
  | tup l => exact amt_core X (.inr rfl) (ki l rfl) m
  | _ =>
    simp only [isL] at hl
    refine runB_ev (o := some (.rt (.bl false))) rfl ?_ rfl
    simp [g_is_amount, outP, ap_gVar, ap_gVarT, ap_g1, ap_g2, ap_gN, ap_gNil, ap_gCons, ap_gLst, ap_gTup, ap_gTru, ap_gBl, ap_gAndT, ap_gOrT, ap_gNotT, ap_gIf, ap_gAndV, ap_gOrV, ap_gNotV, ap_gCall, ap_goNone, ap_goSome, ap_gSl, ap_giSeq, ap_tgName, ap_tgNil, ap_tgCons, ap_tgTup, ap_gYes, ap_sNext, ap_sSeq, ap_sRet, ap_sRetN, ap_sIf, ap_sAsg, ap_sBrk, ap_sCnt, ap_sNever, ap_sDrop, ap_sRaise, ap_sPar, pb_ok, pb_er, po_ok, pn_ok, pl_ok, pl_er, blT, intT, szL, tr1, tr2, oEq_int, oI, vw_t, hl]
end
end K1
set_option Elab.async false
set_option linter.all false
set_option maxRecDepth 100000
set_option maxHeartbeats 400000
namespace K1
open PySem PySem.Spec PyProof.Rows L2 Zy
section
variable {P : Program} {w : World} {K : PySem.W.Frag} {mg : Str → Option Value} {base : Heap} {Z : Ads}
/-- t is a list or a tuple of these numbers -/
def IsR (t : T) (ns : List Int) : Prop := t = .lst (iL ns) ∨ t = .tup (iL ns)
theorem IsR.itm {t : T} {ns : List Int} (h : IsR t ns) : itmT t = some (iL ns) := itm_of h
theorem zp_of {t u : T} {ns ms : List Int} (h : IsR t ns) (h' : IsR u ms) : zpOp [t, u] = some ((ns.zip ms).map fun p => T.tup [.int p.1, .int p.2]) := by
  show (itmT t).bind (fun l => (itmT u).map fun m => zpO l m) = _
  rw [h.itm, h'.itm]
  show some (zpO (iL ns) (iL ms)) = _
  rw [zpO_iL]
def dotI (ns ms : List Int) : Int := ((ns.zip ms).map fun p => p.1 * p.2).sum
def mostI (ns ms : List Int) : Bool := (ns.zip ms).all fun p => decide (p.1 ≤ p.2)
theorem intsT_map {α : Type} (f : α → Int) : ∀ l : List α, intsT (l.map fun x => .int (f x)) = some (l.map f)
  | [] => rfl
  | x :: l => by show (intsT _).map _ = _; rw [intsT_map f l]; rfl
theorem oSum_map {α : Type} (f : α → Int) (l : List α) : oSum [.lst (l.map fun x => .int (f x))] = some (.int (l.map f).sum) := by
  show (intsT _).map _ = _
  rw [intsT_map]; rfl
def Bd (ns : List Int) : Prop := ∀ n ∈ ns, -(2 ^ 64) < n ∧ n < 2 ^ 64
theorem zip_lc {ge : Gx} {t u : T} {ns ms : List Int} {a b : Nat} {o : Int × Int → T} {rest : En} (ha : ns.length ≤ 1000) (ht : IsR t ns) (hu : IsR u ms) (h : ∀ p ∈ ns.zip ms, ge [some (.t t), some (.t u), some (.t (.int p.1)), some (.t (.int p.2))] [] = .ok (o p)) :
    gLc (giO zpOp (Zy.gCons (gVarT 0) (Zy.gCons (gVarT 1) gNil))) (tgTup 2 (tgCons (tgName 2) (tgCons (tgName 3) tgNil))) gYes ge [2, 3] [some (.t t), some (.t u), none, none] [] = .ok (.lst ((ns.zip ms).map o)) :=
  ev_lc (ev_O (ev_cons rfl (ev_cons rfl rfl)) (zp_of ht hu)) (by simp; exact le_size (by omega)) (by
    have := compO_mapG (tg := tgTup 2 (tgCons (tgName 2) (tgCons (tgName 3) tgNil))) (ge := ge) (ρ := wipeE [some (.t t), some (.t u), none, none] [2, 3]) (μ := []) (i := fun p : Int × Int => T.tup [.int p.1, .int p.2]) (o := o) (ns.zip ms) [] (fun p hp => ⟨_, rfl, h p hp⟩)
    simpa using this)
theorem mul_ev {t u : T} {p : Int × Int} (h : -(2 ^ 64) < p.1 ∧ p.1 < 2 ^ 64) : g2 oTimesX (gVar 2) (gVar 3) [some (.t t), some (.t u), some (.t (.int p.1)), some (.t (.int p.2))] [] = .ok (.int (p.1 * p.2)) := by
  have hc : CMul p.1 p.2 ∨ CMulW p.1 p.2 := .inl (.inl h)
  simp [outP, ap_gVar, ap_gVarT, ap_g1, ap_g2, ap_gN, ap_gNil, ap_gCons, ap_gLst, ap_gTup, ap_gTru, ap_gBl, ap_gAndT, ap_gOrT, ap_gNotT, ap_gIf, ap_gAndV, ap_gOrV, ap_gNotV, ap_gCall, ap_goNone, ap_goSome, ap_gSl, ap_giSeq, ap_tgName, ap_tgNil, ap_tgCons, ap_tgTup, ap_gYes, ap_sNext, ap_sSeq, ap_sRet, ap_sRetN, ap_sIf, ap_sAsg, ap_sBrk, ap_sCnt, ap_sNever, ap_sDrop, ap_sRaise, ap_sPar, pb_ok, pb_er, po_ok, pn_ok, pl_ok, pl_er, blT, intT, szL, tr1, tr2, oEq_int, oI, vw_t, oTimesX, hc]
theorem le_ev {t u : T} {p : Int × Int} : g2 oLe (gVar 2) (gVar 3) [some (.t t), some (.t u), some (.t (.int p.1)), some (.t (.int p.2))] [] = .ok (.bl (decide (p.1 ≤ p.2))) := by
  simp [outP, ap_gVar, ap_gVarT, ap_g1, ap_g2, ap_gN, ap_gNil, ap_gCons, ap_gLst, ap_gTup, ap_gTru, ap_gBl, ap_gAndT, ap_gOrT, ap_gNotT, ap_gIf, ap_gAndV, ap_gOrV, ap_gNotV, ap_gCall, ap_goNone, ap_goSome, ap_gSl, ap_giSeq, ap_tgName, ap_tgNil, ap_tgCons, ap_tgTup, ap_gYes, ap_sNext, ap_sSeq, ap_sRet, ap_sRetN, ap_sIf, ap_sAsg, ap_sBrk, ap_sCnt, ap_sNever, ap_sDrop, ap_sRaise, ap_sPar, pb_ok, pb_er, po_ok, pn_ok, pl_ok, pl_er, blT, intT, szL, tr1, tr2, oEq_int, oI, vw_t]
theorem dot_ok {t u : T} {ns ms : List Int} (ha : ns.length ≤ 1000) (hb : Bd ns) (ht : IsR t ns) (hu : IsR u ms) : f_dot K Z [t, u] = .ok (.int (dotI ns ms)) := by
  have h := zip_lc (a := 0) (b := 0) (rest := []) (o := fun p => .int (p.1 * p.2)) ha ht hu fun p hp => mul_ev (t := t) (u := u) (hb p.1 (List.of_mem_zip hp).1)
  have hs := oSum_map (fun p : Int × Int => p.1 * p.2) (ns.zip ms)
  exact runB_ev (ρ := [some (.t t), some (.t u), none, none]) rfl (by simp [g_dot, outP, ap_gVar, ap_gVarT, ap_g1, ap_g2, ap_gN, ap_gNil, ap_gCons, ap_gLst, ap_gTup, ap_gTru, ap_gBl, ap_gAndT, ap_gOrT, ap_gNotT, ap_gIf, ap_gAndV, ap_gOrV, ap_gNotV, ap_gCall, ap_goNone, ap_goSome, ap_gSl, ap_giSeq, ap_tgName, ap_tgNil, ap_tgCons, ap_tgTup, ap_gYes, ap_sNext, ap_sSeq, ap_sRet, ap_sRetN, ap_sIf, ap_sAsg, ap_sBrk, ap_sCnt, ap_sNever, ap_sDrop, ap_sRaise, ap_sPar, pb_ok, pb_er, po_ok, pn_ok, pl_ok, pl_er, blT, intT, szL, tr1, tr2, oEq_int, oI, vw_t, h, hs]; rfl) rfl
theorem ldot_ok {t u : T} {ns ms : List Int} (ha : ns.length ≤ 1000) (hb : Bd ns) (ht : IsR t ns) (hu : IsR u ms) : f__law_dot K Z [t, u] = .ok (.int (dotI ns ms)) := by
  have h := zip_lc (a := 0) (b := 0) (rest := []) (o := fun p => .int (p.1 * p.2)) ha ht hu fun p hp => mul_ev (t := t) (u := u) (hb p.1 (List.of_mem_zip hp).1)
  have hs := oSum_map (fun p : Int × Int => p.1 * p.2) (ns.zip ms)
  exact runB_ev (ρ := [some (.t t), some (.t u), none, none]) rfl (by simp [g__law_dot, outP, ap_gVar, ap_gVarT, ap_g1, ap_g2, ap_gN, ap_gNil, ap_gCons, ap_gLst, ap_gTup, ap_gTru, ap_gBl, ap_gAndT, ap_gOrT, ap_gNotT, ap_gIf, ap_gAndV, ap_gOrV, ap_gNotV, ap_gCall, ap_goNone, ap_goSome, ap_gSl, ap_giSeq, ap_tgName, ap_tgNil, ap_tgCons, ap_tgTup, ap_gYes, ap_sNext, ap_sSeq, ap_sRet, ap_sRetN, ap_sIf, ap_sAsg, ap_sBrk, ap_sCnt, ap_sNever, ap_sDrop, ap_sRaise, ap_sPar, pb_ok, pb_er, po_ok, pn_ok, pl_ok, pl_er, blT, intT, szL, tr1, tr2, oEq_int, oI, vw_t, h, hs]; rfl) rfl
theorem at_most_ok {t u : T} {ns ms : List Int} (ha : ns.length ≤ 1000) (ht : IsR t ns) (hu : IsR u ms) : f_is_at_most K Z [t, u] = .ok (.bl (mostI ns ms)) := by
  have h := zip_lc (a := 0) (b := 0) (rest := []) (o := fun p => .bl (decide (p.1 ≤ p.2))) ha ht hu fun p hp => le_ev (t := t) (u := u)
  have hs := oAll_map (fun p : Int × Int => decide (p.1 ≤ p.2)) (ns.zip ms)
  exact runB_ev (ρ := [some (.t t), some (.t u), none, none]) rfl (by simp [g_is_at_most, outP, ap_gVar, ap_gVarT, ap_g1, ap_g2, ap_gN, ap_gNil, ap_gCons, ap_gLst, ap_gTup, ap_gTru, ap_gBl, ap_gAndT, ap_gOrT, ap_gNotT, ap_gIf, ap_gAndV, ap_gOrV, ap_gNotV, ap_gCall, ap_goNone, ap_goSome, ap_gSl, ap_giSeq, ap_tgName, ap_tgNil, ap_tgCons, ap_tgTup, ap_gYes, ap_sNext, ap_sSeq, ap_sRet, ap_sRetN, ap_sIf, ap_sAsg, ap_sBrk, ap_sCnt, ap_sNever, ap_sDrop, ap_sRaise, ap_sPar, pb_ok, pb_er, po_ok, pn_ok, pl_ok, pl_er, blT, intT, szL, tr1, tr2, oEq_int, oI, vw_t, h, hs]; rfl) rfl
theorem most_ok {t u : T} {ns ms : List Int} (ha : ns.length ≤ 1000) (ht : IsR t ns) (hu : IsR u ms) : f__law_most K Z [t, u] = .ok (.bl (mostI ns ms)) := by
  have h := zip_lc (a := 0) (b := 0) (rest := []) (o := fun p => .bl (decide (p.1 ≤ p.2))) ha ht hu fun p hp => le_ev (t := t) (u := u)
  have hs := oAll_map (fun p : Int × Int => decide (p.1 ≤ p.2)) (ns.zip ms)
  exact runB_ev (ρ := [some (.t t), some (.t u), none, none]) rfl (by simp [g__law_most, outP, ap_gVar, ap_gVarT, ap_g1, ap_g2, ap_gN, ap_gNil, ap_gCons, ap_gLst, ap_gTup, ap_gTru, ap_gBl, ap_gAndT, ap_gOrT, ap_gNotT, ap_gIf, ap_gAndV, ap_gOrV, ap_gNotV, ap_gCall, ap_goNone, ap_goSome, ap_gSl, ap_giSeq, ap_tgName, ap_tgNil, ap_tgCons, ap_tgTup, ap_gYes, ap_sNext, ap_sSeq, ap_sRet, ap_sRetN, ap_sIf, ap_sAsg, ap_sBrk, ap_sCnt, ap_sNever, ap_sDrop, ap_sRaise, ap_sPar, pb_ok, pb_er, po_ok, pn_ok, pl_ok, pl_er, blT, intT, szL, tr1, tr2, oEq_int, oI, vw_t, h, hs]; rfl) rfl
/-! ### prices -/
def isPos : T → Bool
  | .int i => decide (0 < i)
  | _ => false
theorem are_prices_no (X : Fx P w K mg base Z) {t : T} (k : Knd Z t) (ki : ∀ l, seqT t = some l → ∀ x ∈ l, Knd Z x) (m : Option Nat) (h : isA t m = false) : f_are_prices K Z [t, manyT m] = .ok (.bl false) := by
  have := is_amount_ok X k ki m
  rw [h] at this
  exact runB_ev (ρ := [some (.t t), some (.t (manyT m)), none]) rfl (by simp [g_are_prices, outP, ap_gVar, ap_gVarT, ap_g1, ap_g2, ap_gN, ap_gNil, ap_gCons, ap_gLst, ap_gTup, ap_gTru, ap_gBl, ap_gAndT, ap_gOrT, ap_gNotT, ap_gIf, ap_gAndV, ap_gOrV, ap_gNotV, ap_gCall, ap_goNone, ap_goSome, ap_gSl, ap_giSeq, ap_tgName, ap_tgNil, ap_tgCons, ap_tgTup, ap_gYes, ap_sNext, ap_sSeq, ap_sRet, ap_sRetN, ap_sIf, ap_sAsg, ap_sBrk, ap_sCnt, ap_sNever, ap_sDrop, ap_sRaise, ap_sPar, pb_ok, pb_er, po_ok, pn_ok, pl_ok, pl_er, blT, intT, szL, tr1, tr2, oEq_int, oI, vw_t, this]; rfl) rfl
theorem are_prices_of (X : Fx P w K mg base Z) {t : T} {ns : List Int} (ht : IsR t ns) (m : Option Nat) (h : isA t m = true) (hz : ns.length ≤ 1000) : f_are_prices K Z [t, manyT m] = .ok (.bl (ns.any fun n => decide (0 < n))) := by
  have kt : Knd Z t := by rcases ht with rfl | rfl <;> constructor
  have := is_amount_ok X kt (fun l hl x hx => by
    have e : l = iL ns := by rcases ht with rfl | rfl <;> (cases hl; rfl)
    subst e
    obtain ⟨n, _, rfl⟩ := mem_map_iL hx
    exact .int n) m
  rw [h] at this
  have hLc : gLc (giSeq (gVar 0)) (tgName 2) gYes (g2 oGt (gVar 2) (gC (.int 0))) [2] [some (.t t), some (.t (manyT m)), none] [] = .ok (.lst (ns.map fun n => .bl (decide (0 < n)))) :=
    ev_lc (ev_seq (ev_var rfl rfl) ht.itm) (by simp; exact le_size (by omega)) (by
      have := compO_mapG (tg := tgName 2) (ge := g2 oGt (gVar 2) (gC (.int 0))) (ρ := wipeE [some (.t t), some (.t (manyT m)), none] [2]) (μ := []) (i := T.int) (o := fun n => .bl (decide (0 < n))) ns [] (fun n hn => ⟨_, rfl, by simp [outP, ap_gVar, ap_gVarT, ap_g1, ap_g2, ap_gN, ap_gNil, ap_gCons, ap_gLst, ap_gTup, ap_gTru, ap_gBl, ap_gAndT, ap_gOrT, ap_gNotT, ap_gIf, ap_gAndV, ap_gOrV, ap_gNotV, ap_gCall, ap_goNone, ap_goSome, ap_gSl, ap_giSeq, ap_tgName, ap_tgNil, ap_tgCons, ap_tgTup, ap_gYes, ap_sNext, ap_sSeq, ap_sRet, ap_sRetN, ap_sIf, ap_sAsg, ap_sBrk, ap_sCnt, ap_sNever, ap_sDrop, ap_sRaise, ap_sPar, pb_ok, pb_er, po_ok, pn_ok, pl_ok, pl_er, blT, intT, szL, tr1, tr2, oEq_int, oI, vw_t, wipeE]⟩)
      simpa using this)
  have hA := oAny_map (fun n : Int => decide (0 < n)) ns
  exact runB_ev (ρ := [some (.t t), some (.t (manyT m)), none]) rfl (by simp [g_are_prices, outP, ap_gVar, ap_gVarT, ap_g1, ap_g2, ap_gN, ap_gNil, ap_gCons, ap_gLst, ap_gTup, ap_gTru, ap_gBl, ap_gAndT, ap_gOrT, ap_gNotT, ap_gIf, ap_gAndV, ap_gOrV, ap_gNotV, ap_gCall, ap_goNone, ap_goSome, ap_gSl, ap_giSeq, ap_tgName, ap_tgNil, ap_tgCons, ap_tgTup, ap_gYes, ap_sNext, ap_sSeq, ap_sRet, ap_sRetN, ap_sIf, ap_sAsg, ap_sBrk, ap_sCnt, ap_sNever, ap_sDrop, ap_sRaise, ap_sPar, pb_ok, pb_er, po_ok, pn_ok, pl_ok, pl_er, blT, intT, szL, tr1, tr2, oEq_int, oI, vw_t, this, hLc, hA]; rfl) rfl
end
end K1
set_option Elab.async false
set_option linter.all false
set_option maxRecDepth 100000
set_option maxHeartbeats 400000
namespace K1
open PySem PySem.Spec PyProof.Rows L2 Zy
section
variable {P : Program} {w : World} {K : PySem.W.Frag} {mg : Str → Option Value} {base : Heap} {Z : Ads}
/-- what may be handed in: a thing, with things in it -/
def Kn2 (Z : Ads) (t : T) : Prop := Knd Z t ∧ ∀ l, seqT t = some l → ∀ x ∈ l, Knd Z x
theorem row_of {l : List T} (h1 : l.all isN = true) : ∃ ns : List Int, l = iL ns ∧ ∀ n ∈ ns, 0 ≤ n := by
  induction l with
  | nil => exact ⟨[], rfl, fun n h => nomatch h⟩
  | cons x l ih =>
    rw [List.all_cons] at h1
    obtain ⟨hx, hl⟩ := and2 h1
    obtain ⟨ns, e, r⟩ := ih hl
    cases x with
    | int i =>
      refine ⟨i :: ns, ?_, fun n hn => ?_⟩
      · rw [e]; rfl
      · rcases List.mem_cons.mp hn with rfl | z
        · exact of_decide_eq_true hx
        · exact r n z
    | _ => cases hx
def manyB (m : Option Nat) (n : Nat) : Bool := match m with
  | some k => decide (n = k)
  | none => true
theorem manyB_iff {m : Option Nat} {n : Nat} : manyB m n = true ↔ ∀ k, m = some k → n = k := by
  cases m with
  | none => exact ⟨fun _ k e => (nomatch e), fun _ => rfl⟩
  | some k => exact ⟨fun h j e => by cases e; exact of_decide_eq_true h, fun h => decide_eq_true (h k rfl)⟩
theorem isA_seq {l : List T} {m : Option Nat} (t : T) (ht : t = .lst l ∨ t = .tup l) : isA t m = (decide (l.length = 1 ∨ l.length = 2 ∨ l.length = 3) && manyB m l.length && l.all isN) := by
  rcases ht with rfl | rfl <;> cases m <;> rfl
theorem isA_row {t : T} {m : Option Nat} (h : isA t m = true) : ∃ ns, IsR t ns ∧ (ns.length = 1 ∨ ns.length = 2 ∨ ns.length = 3) ∧ (∀ n ∈ ns, 0 ≤ n) ∧ (∀ k, m = some k → ns.length = k) := by
  have key : ∀ l : List T, (t = .lst l ∨ t = .tup l) → ∃ ns : List Int, l = iL ns ∧ (ns.length = 1 ∨ ns.length = 2 ∨ ns.length = 3) ∧ (∀ n ∈ ns, 0 ≤ n) ∧ (∀ k, m = some k → ns.length = k) := by
    intro l ht
    rw [isA_seq t ht] at h
    obtain ⟨h1, h2⟩ := and2 h
    obtain ⟨h3, h4⟩ := and2 h1
    have h3 := of_decide_eq_true h3
    obtain ⟨ns, rfl, r⟩ := row_of h2
    have hl : (iL ns).length = ns.length := List.length_map ..
    rw [hl] at h3 h4
    exact ⟨ns, rfl, h3, r, manyB_iff.mp h4⟩
  cases t with
  | lst l => obtain ⟨ns, rfl, r⟩ := key l (.inl rfl); exact ⟨ns, .inl rfl, r⟩
  | tup l => obtain ⟨ns, rfl, r⟩ := key l (.inr rfl); exact ⟨ns, .inr rfl, r⟩
  | _ => cases h
theorem isA_of {t : T} {ns : List Int} {m : Option Nat} (ht : IsR t ns) (h1 : ns.length = 1 ∨ ns.length = 2 ∨ ns.length = 3) (h2 : ∀ n ∈ ns, 0 ≤ n) (h3 : ∀ k, m = some k → ns.length = k) : isA t m = true := by
  have e : (iL ns).all isN = true := List.all_eq_true.mpr fun x hx => by
    obtain ⟨n, hn, rfl⟩ := mem_map_iL hx
    exact decide_eq_true (h2 n hn)
  have hl : (iL ns).length = ns.length := List.length_map ..
  rw [isA_seq (l := iL ns) t ht, e, hl, decide_eq_true h1, manyB_iff.mpr h3]; rfl
theorem len_row {t : T} {ns : List Int} (ht : IsR t ns) : oLen [t] = some (.int ns.length) := by
  rcases ht with rfl | rfl <;> (show some (T.int ((iL ns).length : Nat)) = _; rw [List.length_map])
/-! ### cost -/
theorem cost_bad1 (X : Fx P w K mg base Z) {t u : T} (k : Kn2 Z t) (h : isA t none = false) : f_cost K Z [t, u] = .er (.own Z.a_BadAmount [eBadAmount.f] [t]) := by
  have := is_amount_ok X k.1 k.2 none
  rw [h] at this
  have h' : f_is_amount K Z [t, .non] = .ok (.bl false) := this
  exact runB_ev (ρ := [some (.t t), some (.t u)]) (o := some (.er (.own Z.a_BadAmount [eBadAmount.f] [t]) [some (.t t), some (.t u)])) rfl (by simp [g_cost, outP, ap_gVar, ap_gVarT, ap_g1, ap_g2, ap_gN, ap_gNil, ap_gCons, ap_gLst, ap_gTup, ap_gTru, ap_gBl, ap_gAndT, ap_gOrT, ap_gNotT, ap_gIf, ap_gAndV, ap_gOrV, ap_gNotV, ap_gCall, ap_goNone, ap_goSome, ap_gSl, ap_giSeq, ap_tgName, ap_tgNil, ap_tgCons, ap_tgTup, ap_gYes, ap_sNext, ap_sSeq, ap_sRet, ap_sRetN, ap_sIf, ap_sAsg, ap_sBrk, ap_sCnt, ap_sNever, ap_sDrop, ap_sRaise, ap_sPar, pb_ok, pb_er, po_ok, pn_ok, pl_ok, pl_er, blT, intT, szL, tr1, tr2, oEq_int, oI, vw_t, h']) rfl
theorem kn_row {t : T} {ns : List Int} (ht : IsR t ns) : Kn2 Z t := ⟨by rcases ht with rfl | rfl <;> constructor, fun l hl x hx => by
  have e : l = iL ns := by rcases ht with rfl | rfl <;> (cases hl; rfl)
  subst e
  obtain ⟨n, _, rfl⟩ := mem_map_iL hx
  exact .int n⟩
theorem cost_bad2 (X : Fx P w K mg base Z) {t u : T} {ns : List Int} (ht : IsR t ns) (ha : isA t none = true) (k : Kn2 Z u) (h : isA u (some ns.length) = false ∨ ∃ ms, IsR u ms ∧ ms.length ≤ 1000 ∧ isA u (some ns.length) = true ∧ (ms.any fun n => decide (0 < n)) = false) : f_cost K Z [t, u] = .er (.own Z.a_BadPrices [eBadPrices.f] [u]) := by
  have h1 := is_amount_ok X (kn_row ht).1 (kn_row ht).2 none
  rw [ha] at h1
  have h1' : f_is_amount K Z [t, .non] = .ok (.bl true) := h1
  have h2 : f_are_prices K Z [u, .int ns.length] = .ok (.bl false) := by
    rcases h with h | ⟨ms, hu, hz, h, h3⟩
    · exact are_prices_no X k.1 k.2 (some ns.length) h
    · have := are_prices_of X hu (some ns.length) h hz
      rw [h3] at this; exact this
  have hO := len_row ht
  exact runB_ev (ρ := [some (.t t), some (.t u)]) (o := some (.er (.own Z.a_BadPrices [eBadPrices.f] [u]) [some (.t t), some (.t u)])) rfl (by simp [g_cost, outP, ap_gVar, ap_gVarT, ap_g1, ap_g2, ap_gN, ap_gNil, ap_gCons, ap_gLst, ap_gTup, ap_gTru, ap_gBl, ap_gAndT, ap_gOrT, ap_gNotT, ap_gIf, ap_gAndV, ap_gOrV, ap_gNotV, ap_gCall, ap_goNone, ap_goSome, ap_gSl, ap_giSeq, ap_tgName, ap_tgNil, ap_tgCons, ap_tgTup, ap_gYes, ap_sNext, ap_sSeq, ap_sRet, ap_sRetN, ap_sIf, ap_sAsg, ap_sBrk, ap_sCnt, ap_sNever, ap_sDrop, ap_sRaise, ap_sPar, pb_ok, pb_er, po_ok, pn_ok, pl_ok, pl_er, blT, intT, szL, tr1, tr2, oEq_int, oI, vw_t, h1', hO, h2]) rfl
theorem cost_ok (X : Fx P w K mg base Z) {t u : T} {ns ms : List Int} (ht : IsR t ns) (ha : isA t none = true) (hu : IsR u ms) (hb : Bd ns) (hz : ns.length ≤ 1000) (hz2 : ms.length ≤ 1000) (h : isA u (some ns.length) = true) (h3 : (ms.any fun n => decide (0 < n)) = true) : f_cost K Z [t, u] = .ok (.int (dotI ns ms)) := by
  have h1 := is_amount_ok X (kn_row ht).1 (kn_row ht).2 none
  rw [ha] at h1
  have h1' : f_is_amount K Z [t, .non] = .ok (.bl true) := h1
  have h2 := are_prices_of X hu (some ns.length) h hz2
  rw [h3] at h2
  have h2' : f_are_prices K Z [u, .int ns.length] = .ok (.bl true) := h2
  have hO := len_row ht
  have hd := dot_ok (K := K) (Z := Z) hz hb ht hu
  exact runB_ev (ρ := [some (.t t), some (.t u)]) (o := some (.rt (.int (dotI ns ms)))) rfl (by simp [g_cost, outP, ap_gVar, ap_gVarT, ap_g1, ap_g2, ap_gN, ap_gNil, ap_gCons, ap_gLst, ap_gTup, ap_gTru, ap_gBl, ap_gAndT, ap_gOrT, ap_gNotT, ap_gIf, ap_gAndV, ap_gOrV, ap_gNotV, ap_gCall, ap_goNone, ap_goSome, ap_gSl, ap_giSeq, ap_tgName, ap_tgNil, ap_tgCons, ap_tgTup, ap_gYes, ap_sNext, ap_sSeq, ap_sRet, ap_sRetN, ap_sIf, ap_sAsg, ap_sBrk, ap_sCnt, ap_sNever, ap_sDrop, ap_sRaise, ap_sPar, pb_ok, pb_er, po_ok, pn_ok, pl_ok, pl_er, blT, intT, szL, tr1, tr2, oEq_int, oI, vw_t, h1', hO, h2', hd]) rfl
/-! ### checked amounts -/
def firstBad (many : Option Nat) : Nat → List T → Option Nat
  | _, [] => none
  | i, x :: r => if isA x many = true then firstBad many (i + 1) r else some i
def manyOf (l : List T) : Option Nat := match l with
  | x :: _ => if isA x none = true then (match seqT x with | some r => some r.length | none => none) else none
  | [] => none
def tupT : T → T
  | .lst l => .tup l
  | t => t
noncomputable def bodyC (K : PySem.W.Frag) (Z : Ads) : Gs := ((sIf (gNotT (gTru (gCall (f_is_amount K Z) [] (Zy.gCons (gVarT 3) (Zy.gCons (gVarT 1) (Zy.gNil)))))) ((sRaise Z.a_BadAmounts eBadAmounts.f (gVarT 2))) (sNext)))
theorem loopC (X : Fx P w K mg base Z) {t : T} {many : Option Nat} : ∀ (l : List T) (i : Nat) (o2 o3 : Option D), (∀ x ∈ l, Kn2 Z x) → ∃ o2' o3' : Option D, forO (tgTup 2 (tgCons (tgName 2) (tgCons (tgName 3) tgNil))) (bodyC K Z) [] (enO i l) [some (.t t), some (.t (manyT many)), o2, o3] =
    match firstBad many i l with
    | none => some (.nx [some (.t t), some (.t (manyT many)), o2', o3'])
    | some j => some (.er (.own Z.a_BadAmounts [eBadAmounts.f] [.int (j : Nat)]) [some (.t t), some (.t (manyT many)), o2', o3'])
  | [], i, o2, o3, _ => ⟨_, _, rfl⟩
  | x :: l, i, o2, o3, h => by
    have hx := h x List.mem_cons_self
    have ha := is_amount_ok X hx.1 hx.2 many
    show ∃ o2' o3' : Option D, (match bodyC K Z [some (.t t), some (.t (manyT many)), some (.t (.int (i : Nat))), some (.t x)] [] with
      | some (.nx ρ2) => forO (tgTup 2 (tgCons (tgName 2) (tgCons (tgName 3) tgNil))) (bodyC K Z) [] (enO (i + 1) l) ρ2
      | some (.ct ρ2) => forO (tgTup 2 (tgCons (tgName 2) (tgCons (tgName 3) tgNil))) (bodyC K Z) [] (enO (i + 1) l) ρ2
      | some (.bk ρ2) => some (.nx ρ2)
      | o => o) = match (if isA x many = true then firstBad many (i + 1) l else some i) with
        | none => some (.nx [some (.t t), some (.t (manyT many)), o2', o3'])
        | some j => some (.er (.own Z.a_BadAmounts [eBadAmounts.f] [.int (j : Nat)]) [some (.t t), some (.t (manyT many)), o2', o3'])
    cases hb : isA x many with
    | true =>
      rw [hb] at ha
      have hB : bodyC K Z [some (.t t), some (.t (manyT many)), some (.t (.int (i : Nat))), some (.t x)] [] = some (.nx [some (.t t), some (.t (manyT many)), some (.t (.int (i : Nat))), some (.t x)]) := by
        simp [bodyC, outP, ap_gVar, ap_gVarT, ap_g1, ap_g2, ap_gN, ap_gNil, ap_gCons, ap_gLst, ap_gTup, ap_gTru, ap_gBl, ap_gAndT, ap_gOrT, ap_gNotT, ap_gIf, ap_gAndV, ap_gOrV, ap_gNotV, ap_gCall, ap_goNone, ap_goSome, ap_gSl, ap_giSeq, ap_tgName, ap_tgNil, ap_tgCons, ap_tgTup, ap_gYes, ap_sNext, ap_sSeq, ap_sRet, ap_sRetN, ap_sIf, ap_sAsg, ap_sBrk, ap_sCnt, ap_sNever, ap_sDrop, ap_sRaise, ap_sPar, pb_ok, pb_er, po_ok, pn_ok, pl_ok, pl_er, blT, intT, szL, tr1, tr2, oEq_int, oI, vw_t, ha]
      rw [hB, if_pos rfl]
      exact loopC X l (i + 1) _ _ fun y hy => h y (List.mem_cons_of_mem _ hy)
    | false =>
      rw [hb] at ha
      have hB : bodyC K Z [some (.t t), some (.t (manyT many)), some (.t (.int (i : Nat))), some (.t x)] [] = some (.er (.own Z.a_BadAmounts [eBadAmounts.f] [.int (i : Nat)]) [some (.t t), some (.t (manyT many)), some (.t (.int (i : Nat))), some (.t x)]) := by
        simp [bodyC, outP, ap_gVar, ap_gVarT, ap_g1, ap_g2, ap_gN, ap_gNil, ap_gCons, ap_gLst, ap_gTup, ap_gTru, ap_gBl, ap_gAndT, ap_gOrT, ap_gNotT, ap_gIf, ap_gAndV, ap_gOrV, ap_gNotV, ap_gCall, ap_goNone, ap_goSome, ap_gSl, ap_giSeq, ap_tgName, ap_tgNil, ap_tgCons, ap_tgTup, ap_gYes, ap_sNext, ap_sSeq, ap_sRet, ap_sRetN, ap_sIf, ap_sAsg, ap_sBrk, ap_sCnt, ap_sNever, ap_sDrop, ap_sRaise, ap_sPar, pb_ok, pb_er, po_ok, pn_ok, pl_ok, pl_er, blT, intT, szL, tr1, tr2, oEq_int, oI, vw_t, ha]
      rw [hB, if_neg Bool.false_ne_true]
      exact ⟨_, _, rfl⟩
end
end K1
set_option Elab.async false
set_option linter.all false
set_option maxRecDepth 100000
set_option maxHeartbeats 400000
namespace K1
open PySem PySem.Spec PyProof.Rows L2 Zy
section
variable {P : Program} {w : World} {K : PySem.W.Frag} {mg : Str → Option Value} {base : Heap} {Z : Ads}
theorem ca_not (X : Fx P w K mg base Z) {t : T} (k : Knd Z t) (h : isL t = false) : f_checked_amounts K Z [t] = .er (.own Z.a_BadAmounts [eBadAmounts.f] [.int 0]) := by
  have hl := is_list_ok X k
  rw [h] at hl
  exact runB_ev (ρ := [some (.t t), none, none, none]) (o := some (.er (.own Z.a_BadAmounts [eBadAmounts.f] [.int 0]) [some (.t t), none, none, none])) rfl (by simp [g_checked_amounts, outP, ap_gVar, ap_gVarT, ap_g1, ap_g2, ap_gN, ap_gNil, ap_gCons, ap_gLst, ap_gTup, ap_gTru, ap_gBl, ap_gAndT, ap_gOrT, ap_gNotT, ap_gIf, ap_gAndV, ap_gOrV, ap_gNotV, ap_gCall, ap_goNone, ap_goSome, ap_gSl, ap_giSeq, ap_tgName, ap_tgNil, ap_tgCons, ap_tgTup, ap_gYes, ap_sNext, ap_sSeq, ap_sRet, ap_sRetN, ap_sIf, ap_sAsg, ap_sBrk, ap_sCnt, ap_sNever, ap_sDrop, ap_sRaise, ap_sPar, pb_ok, pb_er, po_ok, pn_ok, pl_ok, pl_er, blT, intT, szL, tr1, tr2, oEq_int, oI, vw_t, hl]) rfl
theorem isA_none {x : T} {m : Option Nat} (h : isA x none = true) : ∃ l, (x = .lst l ∨ x = .tup l) ∧ seqT x = some l := by
  cases x with
  | lst l => exact ⟨l, .inl rfl, rfl⟩
  | tup l => exact ⟨l, .inr rfl, rfl⟩
  | _ => cases h
noncomputable def gMany (K : PySem.W.Frag) (Z : Ads) : Gx := (gIf (gAndT (gBl (g2 oGt (gN oLen (gCons (gVar 0) (gNil))) (gC (.int 0)))) (gTru (gCall (f_is_amount K Z) [.non] (gCons (g2 oIx (gVar 0) (gC (.int 0))) (gNil))))) (gN oLen (gCons (g2 oIx (gVar 0) (gC (.int 0))) (gNil))) (gC (.non)))
theorem many_ev (X : Fx P w K mg base Z) {t : T} {l : List T} (ht : t = .lst l ∨ t = .tup l) (hk : ∀ x ∈ l, Kn2 Z x) : gMany K Z [some (.t t), none, none, none] [] = .ok (manyT (manyOf l)) := by
  have hO : oLen [t] = some (.int l.length) := by rcases ht with rfl | rfl <;> rfl
  cases l with
  | nil => simp [gMany, outP, ap_gVar, ap_gVarT, ap_g1, ap_g2, ap_gN, ap_gNil, ap_gCons, ap_gLst, ap_gTup, ap_gTru, ap_gBl, ap_gAndT, ap_gOrT, ap_gNotT, ap_gIf, ap_gAndV, ap_gOrV, ap_gNotV, ap_gCall, ap_goNone, ap_goSome, ap_gSl, ap_giSeq, ap_tgName, ap_tgNil, ap_tgCons, ap_tgTup, ap_gYes, ap_sNext, ap_sSeq, ap_sRet, ap_sRetN, ap_sIf, ap_sAsg, ap_sBrk, ap_sCnt, ap_sNever, ap_sDrop, ap_sRaise, ap_sPar, pb_ok, pb_er, po_ok, pn_ok, pl_ok, pl_er, blT, intT, szL, tr1, tr2, oEq_int, oI, vw_t, hO, manyOf, manyT]
  | cons x l =>
    have hx := hk x List.mem_cons_self
    have hI : oIx t (.int 0) = some x := by rcases ht with rfl | rfl <;> simp [oIx, oI, seqT, atI, ixN]
    have ha := is_amount_ok X hx.1 hx.2 none
    have hp : (0 : Int) < (x :: l).length := by simp
    cases hb : isA x none with
    | false =>
      rw [hb] at ha
      have ha' : f_is_amount K Z [x, .non] = .ok (.bl false) := ha
      have e : manyOf (x :: l) = none := by simp [manyOf, hb]
      rw [e]
      simp [gMany, outP, ap_gVar, ap_gVarT, ap_g1, ap_g2, ap_gN, ap_gNil, ap_gCons, ap_gLst, ap_gTup, ap_gTru, ap_gBl, ap_gAndT, ap_gOrT, ap_gNotT, ap_gIf, ap_gAndV, ap_gOrV, ap_gNotV, ap_gCall, ap_goNone, ap_goSome, ap_gSl, ap_giSeq, ap_tgName, ap_tgNil, ap_tgCons, ap_tgTup, ap_gYes, ap_sNext, ap_sSeq, ap_sRet, ap_sRetN, ap_sIf, ap_sAsg, ap_sBrk, ap_sCnt, ap_sNever, ap_sDrop, ap_sRaise, ap_sPar, pb_ok, pb_er, po_ok, pn_ok, pl_ok, pl_er, blT, intT, szL, tr1, tr2, oEq_int, oI, vw_t, hO, hI, ha', manyT]
    | true =>
      rw [hb] at ha
      have ha' : f_is_amount K Z [x, .non] = .ok (.bl true) := ha
      obtain ⟨r, hr, hs⟩ := isA_none (m := none) hb
      have hr' : oLen [x] = some (.int r.length) := by rcases hr with rfl | rfl <;> rfl
      have e : manyOf (x :: l) = some r.length := by simp [manyOf, hb, hs]
      rw [e]
      have hp' : (0 : Int) < (l.length : Int) + 1 := by omega
      simp [gMany, outP, ap_gVar, ap_gVarT, ap_g1, ap_g2, ap_gN, ap_gNil, ap_gCons, ap_gLst, ap_gTup, ap_gTru, ap_gBl, ap_gAndT, ap_gOrT, ap_gNotT, ap_gIf, ap_gAndV, ap_gOrV, ap_gNotV, ap_gCall, ap_goNone, ap_goSome, ap_gSl, ap_giSeq, ap_tgName, ap_tgNil, ap_tgCons, ap_tgTup, ap_gYes, ap_sNext, ap_sSeq, ap_sRet, ap_sRetN, ap_sIf, ap_sAsg, ap_sBrk, ap_sCnt, ap_sNever, ap_sDrop, ap_sRaise, ap_sPar, pb_ok, pb_er, po_ok, pn_ok, pl_ok, pl_er, blT, intT, szL, tr1, tr2, oEq_int, oI, vw_t, hO, hI, ha', hr', manyT, hp']
theorem firstBad_none {many : Option Nat} : ∀ {l : List T} {i : Nat}, firstBad many i l = none → ∀ x ∈ l, isA x many = true
  | [], _, _, _, hx => nomatch hx
  | y :: l, i, h, x, hx => by
    unfold firstBad at h
    by_cases hb : isA y many = true
    · rw [if_pos hb] at h
      rcases List.mem_cons.mp hx with rfl | z
      · exact hb
      · exact firstBad_none h x z
    · rw [if_neg hb] at h; cases h
theorem ca_ok (X : Fx P w K mg base Z) {t : T} {l : List T} (ht : t = .lst l ∨ t = .tup l) (hk : ∀ x ∈ l, Kn2 Z x) (hz : l.length ≤ 1000) : f_checked_amounts K Z [t] = match firstBad (manyOf l) 0 l with
    | none => .ok (.lst (l.map tupT))
    | some j => .er (.own Z.a_BadAmounts [eBadAmounts.f] [.int (j : Nat)]) := by
  have kt : Knd Z t := by rcases ht with rfl | rfl <;> constructor
  have hL : isL t = true := by rcases ht with rfl | rfl <;> rfl
  have hl := is_list_ok X kt
  rw [hL] at hl
  have hm := many_ev X ht hk
  obtain ⟨o2, o3, hC⟩ := loopC X (t := t) (many := manyOf l) l 0 none none hk
  have hen : enOp [t] = some (enO 0 l) := by show (itmT t).map (enO 0) = _; rw [itm_of ht]; rfl
  have h1 : sIf (gNotT (gTru (gCall (f_is_list K Z) [] (gCons (gVarT 0) (gNil))))) ((sRaise Z.a_BadAmounts eBadAmounts.f (gC (.int 0)))) (sNext) [some (.t t), none, none, none] [] = some (.nx [some (.t t), none, none, none]) := by
    simp [outP, ap_gVar, ap_gVarT, ap_g1, ap_g2, ap_gN, ap_gNil, ap_gCons, ap_gLst, ap_gTup, ap_gTru, ap_gBl, ap_gAndT, ap_gOrT, ap_gNotT, ap_gIf, ap_gAndV, ap_gOrV, ap_gNotV, ap_gCall, ap_goNone, ap_goSome, ap_gSl, ap_giSeq, ap_tgName, ap_tgNil, ap_tgCons, ap_tgTup, ap_gYes, ap_sNext, ap_sSeq, ap_sRet, ap_sRetN, ap_sIf, ap_sAsg, ap_sBrk, ap_sCnt, ap_sNever, ap_sDrop, ap_sRaise, ap_sPar, pb_ok, pb_er, po_ok, pn_ok, pl_ok, pl_er, blT, intT, szL, tr1, tr2, oEq_int, oI, vw_t, hl]
  have h2 : sAsg (gMany K Z) (tgName 1) [some (.t t), none, none, none] [] = some (.nx [some (.t t), some (.t (manyT (manyOf l))), none, none]) := by
    rw [ap_sAsg, hm]; rfl
  have h3 : giO enOp (gCons (gVarT 0) gNil) [some (.t t), some (.t (manyT (manyOf l))), none, none] [] = .ok (enO 0 l) := ev_O (l := [t]) rfl hen
  cases hf : firstBad (manyOf l) 0 l with
  | some j =>
    rw [hf] at hC
    refine runB_ev (ρ := [some (.t t), none, none, none]) (o := some (.er (.own Z.a_BadAmounts [eBadAmounts.f] [.int (j : Nat)]) [some (.t t), some (.t (manyT (manyOf l))), o2, o3])) rfl ?_ rfl
    show sSeq _ (sSeq (sAsg (gMany K Z) (tgName 1)) (sSeq (sFor (giO enOp (gCons (gVarT 0) gNil)) (tgTup 2 (tgCons (tgName 2) (tgCons (tgName 3) (tgNil)))) (bodyC K Z)) _)) _ _ = _
    rw [ap_sSeq, h1]
    show sSeq (sAsg (gMany K Z) (tgName 1)) _ _ _ = _
    rw [ap_sSeq, h2]
    show sSeq (sFor (giO enOp (gCons (gVarT 0) gNil)) (tgTup 2 (tgCons (tgName 2) (tgCons (tgName 3) (tgNil)))) (bodyC K Z)) _ _ _ = _
    rw [ap_sSeq, ap_sFor, h3, pl_ok, hC]
  | none =>
    rw [hf] at hC
    have hal := firstBad_none hf
    refine runB_ev (ρ := [some (.t t), none, none, none]) (o := some (.rt (.lst (l.map tupT)))) rfl ?_ rfl
    show sSeq _ (sSeq (sAsg (gMany K Z) (tgName 1)) (sSeq (sFor (giO enOp (gCons (gVarT 0) gNil)) (tgTup 2 (tgCons (tgName 2) (tgCons (tgName 3) (tgNil)))) (bodyC K Z)) (sRet (gLc (giSeq (gVar 0)) (tgName 3) gYes (gN oTuple (gCons (gVar 3) gNil)) [3])))) _ _ = _
    rw [ap_sSeq, h1]
    show sSeq (sAsg (gMany K Z) (tgName 1)) _ _ _ = _
    rw [ap_sSeq, h2]
    show sSeq (sFor (giO enOp (gCons (gVarT 0) gNil)) (tgTup 2 (tgCons (tgName 2) (tgCons (tgName 3) (tgNil)))) (bodyC K Z)) _ _ _ = _
    rw [ap_sSeq, ap_sFor, h3, pl_ok, hC]
    show sRet _ _ _ = _
    have hLc : gLc (giSeq (gVar 0)) (tgName 3) gYes (gN oTuple (gCons (gVar 3) gNil)) [3] [some (.t t), some (.t (manyT (manyOf l))), o2, o3] [] = .ok (.lst (l.map tupT)) :=
      ev_lc (ev_seq (ev_var rfl rfl) (itm_of ht)) (le_size (by omega)) (by
        have := compO_mapG (tg := tgName 3) (ge := gN oTuple (gCons (gVar 3) gNil)) (ρ := wipeE [some (.t t), some (.t (manyT (manyOf l))), o2, o3] [3]) (μ := []) (i := fun x : T => x) (o := tupT) l [] (fun x hx => by
          obtain ⟨ns, hr, h3, _⟩ := isA_row (hal x hx)
          have hz : (iL ns).length ≤ sizeLine := by rw [List.length_map]; exact le_size (by omega)
          refine ⟨_, rfl, ev_N (ev_cons (ev_var rfl rfl) rfl) ?_⟩
          rcases hr with rfl | rfl
          · exact oTuple_l hz
          · exact oTuple_t hz)
        simpa using this)
    rw [ap_sRet, hLc]; rfl
end
end K1
set_option Elab.async false
set_option linter.all false
set_option maxRecDepth 100000
set_option maxHeartbeats 400000
namespace K1
open PySem PySem.Spec PyProof.Rows L2 Zy
section
variable {P : Program} {w : World} {K : PySem.W.Frag} {mg : Str → Option Value} {base : Heap} {Z : Ads}
theorem compM_map {α : Type} {c : Ck} {tg : Mg} {ge : Sx} {ρ : En} {μ : Mu} {i o : α → T} (hc : ckP c μ) : ∀ (l : List α) (acc : List D), (∀ x ∈ l, ∃ q, tg (.t (i x)) ρ μ = some (q, μ) ∧ ge q μ = .ok (.t (o x)) μ) → compM c tg mYes ge ρ ((l.map i).map D.t) acc μ = .ok (acc ++ (l.map o).map D.t) μ
  | [], acc, _ => by show compM c tg mYes ge ρ [] acc μ = _; unfold compM; rw [if_pos hc]; simp
  | x :: l, acc, h => by
    obtain ⟨q, h1, h2⟩ := h x List.mem_cons_self
    rw [List.map_cons, List.map_cons]
    unfold compM
    rw [if_pos hc, h1]
    show ((ge q μ).only.bind fun y μ3 => compM c tg mYes ge ρ ((l.map i).map D.t) (acc ++ [y]) μ3) = _
    rw [h2]
    show compM c tg mYes ge ρ ((l.map i).map D.t) (acc ++ [.t (o x)]) μ = _
    rw [compM_map hc l _ fun y hy => h y (List.mem_cons_of_mem _ hy), List.append_assoc]; rfl
/-- the rows that are at most no row before them -/
def leastR {α : Type} (leq : α → α → Bool) : List α → List α → List α
  | [], acc => acc
  | x :: l, acc => leastR leq l (if (acc.any fun one => leq one x) = true then acc else acc ++ [x])
theorem leastR_len {α : Type} (leq : α → α → Bool) : ∀ l acc : List α, (leastR leq l acc).length ≤ acc.length + l.length
  | [], acc => Nat.le_refl _
  | x :: l, acc => by
    show (leastR leq l (if _ then _ else _)).length ≤ _
    split
    · have := leastR_len leq l acc; simp; omega
    · have := leastR_len leq l (acc ++ [x]); simp at this ⊢; omega
noncomputable def testL (K : PySem.W.Frag) (Z : Ads) : Sx := (mN oAny (mCons (mLc (miSeq (mVar 1)) (mgName 3) (mYes) (mCallP (f_is_at_most K Z) [] 2 (mCons (mVar 3) (mCons (mVar 2) (mNil)))) [3]) (mNil)))
noncomputable def bodyL (K : PySem.W.Frag) (Z : Ads) : Ms := ((msIf (mNotT (mTru (testL K Z))) ((msDrop (mApp (mVar 1) (mVar 2)))) (msNext)))
theorem testL_ev {t : T} {acc : List (List Int)} {row : List Int} {o3 : Option D} (hz : acc.length ≤ 1000) (ha : ∀ ns ∈ acc, ns.length ≤ 1000) : testL K Z [some (.t t), some (.r 0), some (.t (rowT row)), o3] [foundM acc] = .ok (.t (.bl (acc.any fun one => mostI one row))) [foundM acc] := by
  have hi : miSeq (mVar 1) [some (.t t), some (.r 0), some (.t (rowT row)), o3] [foundM acc] = .ok ((acc.map rowT).map D.t, some (0, (acc.map rowT).map D.t)) [foundM acc] := rfl
  have hc := compM_map (tg := mgName 3) (ge := mCallP (f_is_at_most K Z) [] 2 (mCons (mVar 3) (mCons (mVar 2) (mNil)))) (ρ := wipeE [some (.t t), some (.r 0), some (.t (rowT row)), o3] [3]) (c := some (0, (acc.map rowT).map D.t)) (μ := [foundM acc]) (i := rowT) (o := fun one => T.bl (mostI one row)) rfl acc [] (fun one ho => by
    have h := at_most_ok (K := K) (Z := Z) (t := rowT one) (u := rowT row) (ns := one) (ms := row) (ha one ho) (.inr rfl) (.inr rfl)
    refine ⟨[some (.t t), some (.r 0), some (.t (rowT row)), some (.t (rowT one))], rfl, ?_⟩
    simp [outM, ap_mP, ap_mC, ap_mVar, ap_m1, ap_m2, ap_mN, ap_mIx, ap_mNil, ap_mCons, ap_mLst, ap_mLstR, ap_mTup, ap_mTru, ap_mBl, ap_mAndT, ap_mOrT, ap_mNotT, ap_mIf, ap_mAndV, ap_mOrV, ap_mNotV, ap_moNone, ap_moSome, ap_mSl, ap_mgName, ap_mgNil, ap_mgCons, ap_mgTup, ap_mgSub, ap_mYes, ap_msNext, ap_msSeq, ap_msRet, ap_msRetF, ap_msRetN, ap_msIf, ap_msAsg, ap_msBrk, ap_msCnt, ap_msDrop, ap_msFz, ap_mCallP, ap_mErrF, ap_mFz, ap_mD1, ap_msBad, ap_msPar, mCall_eq, sb_ok, sb_er, sl_ok, sl_er, so_ok, sn_ok, vw_t, vws_nil, vws_cons, unT_nil, unT_cons, sq1, sq2, ln1, ln2, tr1, tr2, oEq_int, oI, blD, Zy.intD, frz, szB, h])
  have hL := mLc_ev (gi := miSeq (mVar 1)) (vs := [3]) hi (by simp; exact le_size (by omega)) hc
  have hA := oAny_map (fun one => mostI one row) acc
  show testL K Z _ _ = _
  unfold testL
  rw [ap_mN, ap_mCons, hL]
  simp [outM, ap_mP, ap_mC, ap_mVar, ap_m1, ap_m2, ap_mN, ap_mIx, ap_mNil, ap_mCons, ap_mLst, ap_mLstR, ap_mTup, ap_mTru, ap_mBl, ap_mAndT, ap_mOrT, ap_mNotT, ap_mIf, ap_mAndV, ap_mOrV, ap_mNotV, ap_moNone, ap_moSome, ap_mSl, ap_mgName, ap_mgNil, ap_mgCons, ap_mgTup, ap_mgSub, ap_mYes, ap_msNext, ap_msSeq, ap_msRet, ap_msRetF, ap_msRetN, ap_msIf, ap_msAsg, ap_msBrk, ap_msCnt, ap_msDrop, ap_msFz, ap_mCallP, ap_mErrF, ap_mFz, ap_mD1, ap_msBad, ap_msPar, mCall_eq, sb_ok, sb_er, sl_ok, sl_er, so_ok, sn_ok, vw_t, vws_nil, vws_cons, unT_nil, unT_cons, sq1, sq2, ln1, ln2, tr1, tr2, oEq_int, oI, blD, Zy.intD, frz, szB, hA]
theorem loopL {t : T} : ∀ (l acc : List (List Int)) (o2 o3 : Option D), acc.length + l.length ≤ 1000 → (∀ ns ∈ acc ++ l, ns.length ≤ 1000) → ∃ o2', forM' none (mgName 2) (bodyL K Z) ((l.map rowT).map D.t) [some (.t t), some (.r 0), o2, o3] [foundM acc] = some (.nx [some (.t t), some (.r 0), o2', o3] [foundM (leastR mostI l acc)])
  | [], acc, o2, o3, _, _ => ⟨o2, by show forM' none (mgName 2) (bodyL K Z) [] _ _ = _; unfold forM'; rw [if_pos (show ckP none _ from trivial)]; rfl⟩
  | x :: l, acc, o2, o3, hz, ha => by
    rw [List.length_cons] at hz
    have ht := testL_ev (K := K) (Z := Z) (t := t) (acc := acc) (row := x) (o3 := o3) (by omega) fun ns hn => ha ns (List.mem_append_left _ hn)
    rw [List.map_cons, List.map_cons]
    unfold forM'
    rw [if_pos (show ckP none _ from trivial)]
    show ∃ o2', (match bodyL K Z [some (.t t), some (.r 0), some (.t (rowT x)), o3] [foundM acc] with
      | some (.nx ρ2 μ2) => forM' none (mgName 2) (bodyL K Z) ((l.map rowT).map D.t) ρ2 μ2
      | some (.ct ρ2 μ2) => forM' none (mgName 2) (bodyL K Z) ((l.map rowT).map D.t) ρ2 μ2
      | some (.bk ρ2 μ2) => some (.nx ρ2 μ2)
      | o => o) = _
    cases hb : acc.any fun one => mostI one x with
    | true =>
      rw [hb] at ht
      have hB : bodyL K Z [some (.t t), some (.r 0), some (.t (rowT x)), o3] [foundM acc] = some (.nx [some (.t t), some (.r 0), some (.t (rowT x)), o3] [foundM acc]) := by
        simp [bodyL, outM, ap_mP, ap_mC, ap_mVar, ap_m1, ap_m2, ap_mN, ap_mIx, ap_mNil, ap_mCons, ap_mLst, ap_mLstR, ap_mTup, ap_mTru, ap_mBl, ap_mAndT, ap_mOrT, ap_mNotT, ap_mIf, ap_mAndV, ap_mOrV, ap_mNotV, ap_moNone, ap_moSome, ap_mSl, ap_mgName, ap_mgNil, ap_mgCons, ap_mgTup, ap_mgSub, ap_mYes, ap_msNext, ap_msSeq, ap_msRet, ap_msRetF, ap_msRetN, ap_msIf, ap_msAsg, ap_msBrk, ap_msCnt, ap_msDrop, ap_msFz, ap_mCallP, ap_mErrF, ap_mFz, ap_mD1, ap_msBad, ap_msPar, mCall_eq, sb_ok, sb_er, sl_ok, sl_er, so_ok, sn_ok, vw_t, vws_nil, vws_cons, unT_nil, unT_cons, sq1, sq2, ln1, ln2, tr1, tr2, oEq_int, oI, blD, Zy.intD, frz, szB, ht]
      rw [hB]
      have e : leastR mostI (x :: l) acc = leastR mostI l acc := by show leastR mostI l (if _ then _ else _) = _; rw [if_pos hb]
      rw [e]
      exact loopL l acc _ _ (by omega) fun ns hn => ha ns (by rcases List.mem_append.mp hn with z | z; exact List.mem_append_left _ z; exact List.mem_append_right _ (List.mem_cons_of_mem _ z))
    | false =>
      rw [hb] at ht
      have hA : mApp (mVar 1) (mVar 2) [some (.t t), some (.r 0), some (.t (rowT x)), o3] [foundM acc] = .ok (.t .non) [foundM (acc ++ [x])] := by
        rw [mApp_ev (i := 0) (l0 := (acc.map rowT).map D.t) (μ1 := [foundM acc]) (μ2 := [foundM acc]) (y := .t (rowT x)) rfl rfl rfl (l := (acc.map rowT).map D.t) rfl (by have := le_size (n := acc.length + 1) (by omega); simp; omega)]
        unfold foundM
        rw [List.map_append, List.map_append]; rfl
      have hB : bodyL K Z [some (.t t), some (.r 0), some (.t (rowT x)), o3] [foundM acc] = some (.nx [some (.t t), some (.r 0), some (.t (rowT x)), o3] [foundM (acc ++ [x])]) := by
        simp [bodyL, outM, ap_mP, ap_mC, ap_mVar, ap_m1, ap_m2, ap_mN, ap_mIx, ap_mNil, ap_mCons, ap_mLst, ap_mLstR, ap_mTup, ap_mTru, ap_mBl, ap_mAndT, ap_mOrT, ap_mNotT, ap_mIf, ap_mAndV, ap_mOrV, ap_mNotV, ap_moNone, ap_moSome, ap_mSl, ap_mgName, ap_mgNil, ap_mgCons, ap_mgTup, ap_mgSub, ap_mYes, ap_msNext, ap_msSeq, ap_msRet, ap_msRetF, ap_msRetN, ap_msIf, ap_msAsg, ap_msBrk, ap_msCnt, ap_msDrop, ap_msFz, ap_mCallP, ap_mErrF, ap_mFz, ap_mD1, ap_msBad, ap_msPar, mCall_eq, sb_ok, sb_er, sl_ok, sl_er, so_ok, sn_ok, vw_t, vws_nil, vws_cons, unT_nil, unT_cons, sq1, sq2, ln1, ln2, tr1, tr2, oEq_int, oI, blD, Zy.intD, frz, szB, ht, hA]
      rw [hB]
      have e : leastR mostI (x :: l) acc = leastR mostI l (acc ++ [x]) := by show leastR mostI l (if _ then _ else _) = _; rw [if_neg (by rw [hb]; exact Bool.false_ne_true)]
      rw [e]
      exact loopL l (acc ++ [x]) _ _ (by simp; omega) fun ns hn => ha ns (by simpa using hn)
theorem tupsT_rows : ∀ rows : List (List Int), tupsT (rows.map rowT) = some rows
  | [] => rfl
  | n :: rows => by
    have e : ∀ ns : List Int, intsT (iL ns) = some ns := fun ns => by have := intsT_map (fun x : Int => x) ns; simpa using this
    show (intsT (iL n)).bind (fun n => (tupsT (rows.map rowT)).map (n :: ·)) = _
    rw [e, tupsT_rows rows]; rfl
theorem oSorted_rows {rows : List (List Int)} (h : okS rows) : oSorted [.lst (rows.map rowT)] = some (.lst ((sortC rows).map rowT)) := by
  show (tupsT (rows.map rowT)).bind _ = _
  rw [tupsT_rows]
  show (if okS rows then _ else none) = _
  rw [if_pos h]
theorem least_of_ok {rows : List (List Int)} (h : okS rows) (hl : ∀ ns ∈ rows, ns.length ≤ 1000) : f_least_of K Z [.t (.lst (rows.map rowT))] [] = .ok (.r 0) [foundM (leastR mostI (sortC rows) [])] := by
  obtain ⟨o2', e⟩ := loopL (K := K) (Z := Z) (t := .lst (rows.map rowT)) (sortC rows) [] none none (by have := (sortC_perm rows).length_eq; have := h.1; simp; omega) (fun ns hn => hl ns ((sortC_perm rows).mem_iff.mp (by simpa using hn)))
  refine runM_ev (ρ := [some (.t (.lst (rows.map rowT))), none, none, none]) (o := some (.rt (.r 0) [foundM (leastR mostI (sortC rows) [])])) rfl ?_ rfl
  show msSeq (msAsg (mLstR mNil) (mgName 1)) (msSeq (msFor (miSeq (mN oSorted (mCons (mVar 0) (mNil)))) (mgName 2) (bodyL K Z)) (msRet (mVar 1))) _ _ = _
  have h0 : msAsg (mLstR mNil) (mgName 1) [some (.t (.lst (rows.map rowT))), none, none, none] [] = some (.nx [some (.t (.lst (rows.map rowT))), some (.r 0), none, none] [foundM []]) := by
    simp [outM, ap_mP, ap_mC, ap_mVar, ap_m1, ap_m2, ap_mN, ap_mIx, ap_mNil, ap_mCons, ap_mLst, ap_mLstR, ap_mTup, ap_mTru, ap_mBl, ap_mAndT, ap_mOrT, ap_mNotT, ap_mIf, ap_mAndV, ap_mOrV, ap_mNotV, ap_moNone, ap_moSome, ap_mSl, ap_mgName, ap_mgNil, ap_mgCons, ap_mgTup, ap_mgSub, ap_mYes, ap_msNext, ap_msSeq, ap_msRet, ap_msRetF, ap_msRetN, ap_msIf, ap_msAsg, ap_msBrk, ap_msCnt, ap_msDrop, ap_msFz, ap_mCallP, ap_mErrF, ap_mFz, ap_mD1, ap_msBad, ap_msPar, mCall_eq, sb_ok, sb_er, sl_ok, sl_er, so_ok, sn_ok, vw_t, vws_nil, vws_cons, unT_nil, unT_cons, sq1, sq2, ln1, ln2, tr1, tr2, oEq_int, oI, blD, Zy.intD, frz, szB, sizeLine_eq, foundM]
  have hS := oSorted_rows h
  have h1 : mN oSorted (mCons (mVar 0) (mNil)) [some (.t (.lst (rows.map rowT))), some (.r 0), none, none] [foundM []] = .ok (.t (.lst ((sortC rows).map rowT))) [foundM []] := by
    simp [outM, ap_mP, ap_mC, ap_mVar, ap_m1, ap_m2, ap_mN, ap_mIx, ap_mNil, ap_mCons, ap_mLst, ap_mLstR, ap_mTup, ap_mTru, ap_mBl, ap_mAndT, ap_mOrT, ap_mNotT, ap_mIf, ap_mAndV, ap_mOrV, ap_mNotV, ap_moNone, ap_moSome, ap_mSl, ap_mgName, ap_mgNil, ap_mgCons, ap_mgTup, ap_mgSub, ap_mYes, ap_msNext, ap_msSeq, ap_msRet, ap_msRetF, ap_msRetN, ap_msIf, ap_msAsg, ap_msBrk, ap_msCnt, ap_msDrop, ap_msFz, ap_mCallP, ap_mErrF, ap_mFz, ap_mD1, ap_msBad, ap_msPar, mCall_eq, sb_ok, sb_er, sl_ok, sl_er, so_ok, sn_ok, vw_t, vws_nil, vws_cons, unT_nil, unT_cons, sq1, sq2, ln1, ln2, tr1, tr2, oEq_int, oI, blD, Zy.intD, frz, szB, hS]
  have h5 : msFor (miSeq (mN oSorted (mCons (mVar 0) (mNil)))) (mgName 2) (bodyL K Z) [some (.t (.lst (rows.map rowT))), some (.r 0), none, none] [foundM []] = some (.nx [some (.t (.lst (rows.map rowT))), some (.r 0), o2', none] [foundM (leastR mostI (sortC rows) [])]) := by
    rw [ap_msFor, miSeq_ev h1 rfl, sl_ok]; exact e
  rw [sq_nx _ _ _ _ _ _ h0, sq_nx _ _ _ _ _ _ h5]
  rfl
end
end K1
set_option Elab.async false
set_option linter.all false
set_option maxRecDepth 100000
set_option maxHeartbeats 400000
namespace K1
open PySem PySem.Spec PyProof.Rows L2 Zy
section
variable {P : Program} {w : World} {K : PySem.W.Frag} {mg : Str → Option Value} {base : Heap} {Z : Ads}
open Classical in
theorem hnd_own {c : Value} {i : Nat} {S : MSu} {r : List (Value × Nat × MSu)} {C : Addr} {ns : List Str} {l : List T} {ρ : En} {μ : Mu} {out : Option Mo} (hx : PySem.W.exmOne K (.ref C) c = some true) (h : ∀ a dd, (S a (.ref C) (some dd) (ρ.set i (some (.t (.er a dd ns l)))) μ).bind (clrM i) = out) : hndM K ((c, i, S) :: r) (.own C ns l) ρ μ = out := by
  unfold hndM
  have hx' : exmE K (.own C ns l) c = some true := hx
  rw [hx']
  show (if ∀ a dd, (S a (.ref C) (some dd) (ρ.set i (some (.t (.er a dd ns l)))) μ).bind (clrM i) = (S 0 (.ref C) (some 0) (ρ.set i (some (.t (.er 0 0 ns l)))) μ).bind (clrM i) then (S 0 (.ref C) (some 0) (ρ.set i (some (.t (.er 0 0 ns l)))) μ).bind (clrM i) else none) = out
  rw [if_pos (fun a dd => (h a dd).trans (h 0 0).symm), h]
theorem hnd_skip {c : Value} {i : Nat} {S : MSu} {r : List (Value × Nat × MSu)} {C : Addr} {ns : List Str} {l : List T} {ρ : En} {μ : Mu} (hx : PySem.W.exmOne K (.ref C) c = some false) : hndM K ((c, i, S) :: r) (.own C ns l) ρ μ = hndM K r (.own C ns l) ρ μ := by
  have hx' : exmE K (.own C ns l) c = some false := hx
  show (match exmE K (.own C ns l) c with
    | none => none
    | some true => _
    | some false => hndM K r (.own C ns l) ρ μ) = _
  rw [hx']
theorem try_er {b : Ms} {cl : List (Value × Nat × MSu)} {ρ ρ' : En} {μ μ' : Mu} {e : Err} {o : Option Mo} (h : b ρ μ = some (.er e ρ' μ')) (h2 : hndM K cl e ρ' μ' = o) : msTry K b cl ρ μ = o := by
  unfold msTry; rw [h]; exact h2
theorem try_nx {b : Ms} {cl : List (Value × Nat × MSu)} {ρ ρ' : En} {μ μ' : Mu} (h : b ρ μ = some (.nx ρ' μ')) : msTry K b cl ρ μ = some (.nx ρ' μ') := by
  unfold msTry; rw [h]
/-! ### least_rows -/
theorem rows_er {t : T} {e : Err} (h : f_checked_amounts K Z [t] = .er e) : f_least_rows K Z [.t t] [] = .er e [] := by
  refine runM_ev (ρ := [some (.t t)]) (o := some (.er e [some (.t t)] [])) rfl ?_ rfl
  simp [g_least_rows, outM, ap_mP, ap_mC, ap_mVar, ap_m1, ap_m2, ap_mN, ap_mIx, ap_mNil, ap_mCons, ap_mLst, ap_mLstR, ap_mTup, ap_mTru, ap_mBl, ap_mAndT, ap_mOrT, ap_mNotT, ap_mIf, ap_mAndV, ap_mOrV, ap_mNotV, ap_moNone, ap_moSome, ap_mSl, ap_mgName, ap_mgNil, ap_mgCons, ap_mgTup, ap_mgSub, ap_mYes, ap_msNext, ap_msSeq, ap_msRet, ap_msRetF, ap_msRetN, ap_msIf, ap_msAsg, ap_msBrk, ap_msCnt, ap_msDrop, ap_msFz, ap_mCallP, ap_mErrF, ap_mFz, ap_mD1, ap_msBad, ap_msPar, mCall_eq, sb_ok, sb_er, sl_ok, sl_er, so_ok, sn_ok, vw_t, vws_nil, vws_cons, unT_nil, unT_cons, sq1, sq2, ln1, ln2, tr1, tr2, oEq_int, oI, blD, Zy.intD, frz, szB, h]
theorem refs_t (ts : List T) : refs (ts.map D.t) = [] := by
  have h1 : (ts.map D.t).filterMap rOf = [] := by
    induction ts with
    | nil => rfl
    | cons t l ih => simp [rOf]
  unfold refs
  rw [h1]; rfl
theorem ren_t (ids : List Nat) (ts : List T) : (ts.map D.t).map (ren ids) = ts.map D.t := by
  induction ts with
  | nil => rfl
  | cons t l ih => rw [List.map_cons, List.map_cons, ih]; rfl
def backT (μ : Mu) : Sr D → Sr D
  | .bad => .bad
  | .ok d μ' => backM μ [] d μ'
  | .er e _ => .er e μ
theorem callT {f : Fm} {ts : List T} {n : Nat} {r : Sr D} {μ : Mu} (hn : ts.length = n) (hf : f (ts.map D.t) [] = r) : callM f [] n (ts.map D.t) μ = backT μ r := by
  unfold callM mCall
  show (if (ts.map D.t).length + ([] : List T).length = n then (match sub μ (refs (ts.map D.t)) with
    | none => Sr.bad
    | some μs => match f ((ts.map D.t).map (ren (refs (ts.map D.t))) ++ ([] : List T).map D.t) μs with
      | .bad => .bad
      | .ok d μ' => backM μ (refs (ts.map D.t)) d μ'
      | .er e μ' => if (refs (ts.map D.t)).length ≤ μ'.length ∧ allP (μ'.take (refs (ts.map D.t)).length) = true then .er e (put μ (refs (ts.map D.t)) (μ'.take (refs (ts.map D.t)).length)) else .bad) else .bad) = _
  rw [if_pos (by simpa using hn), refs_t, ren_t]
  show (match f (ts.map D.t ++ []) [] with
      | .bad => Sr.bad
      | .ok d μ' => backM μ [] d μ'
      | .er e μ' => if ([] : List Nat).length ≤ μ'.length ∧ allP (μ'.take ([] : List Nat).length) = true then .er e (put μ [] (μ'.take ([] : List Nat).length)) else .bad) = _
  rw [List.append_nil, hf]
  cases r with
  | bad => rfl
  | ok d μ' => rfl
  | er e μ' => exact if_pos ⟨Nat.zero_le _, rfl⟩
theorem back_new {μ μ' : Mu} {j : Nat} {m : MO} (h : μ'[j]? = some m) (hp : purM m = true) : backM μ [] (.r j) μ' = .ok (.r μ.length) (μ ++ [m]) := by
  unfold backM
  rw [if_pos ⟨Nat.zero_le _, rfl⟩]
  show (match μ'[j]? with
        | some m => if purM m = true then Sr.ok (D.r μ.length) (put μ [] (μ'.take 0) ++ [m]) else _
        | none => .bad) = _
  rw [h]
  show (if purM m = true then Sr.ok (D.r μ.length) (μ ++ [m]) else _) = _
  rw [if_pos hp]
theorem rows_ok {t : T} {rows : List (List Int)} (h : f_checked_amounts K Z [t] = .ok (.lst (rows.map rowT))) (hs : okS rows) (hl : ∀ ns ∈ rows, ns.length ≤ 1000) : f_least_rows K Z [.t t] [] = .ok (.r 0) [foundM (leastR mostI (sortC rows) [])] := by
  have hL := least_of_ok (K := K) (Z := Z) hs hl
  have hc0 : callM (f_least_of K Z) [] 1 [.t (.lst (rows.map rowT))] [] = backT [] _ := callT (ts := [.lst (rows.map rowT)]) rfl hL
  have hb : backM [] [] (.r 0) [foundM (leastR mostI (sortC rows) [])] = .ok (.r 0) [foundM (leastR mostI (sortC rows) [])] := back_new (m := foundM (leastR mostI (sortC rows) [])) rfl (pur_lst _)
  have hc := hc0.trans hb
  refine runM_ev (ρ := [some (.t t)]) (o := some (.rt (.r 0) [foundM (leastR mostI (sortC rows) [])])) rfl ?_ rfl
  simp [g_least_rows, outM, ap_mP, ap_mC, ap_mVar, ap_m1, ap_m2, ap_mN, ap_mIx, ap_mNil, ap_mCons, ap_mLst, ap_mLstR, ap_mTup, ap_mTru, ap_mBl, ap_mAndT, ap_mOrT, ap_mNotT, ap_mIf, ap_mAndV, ap_mOrV, ap_mNotV, ap_moNone, ap_moSome, ap_mSl, ap_mgName, ap_mgNil, ap_mgCons, ap_mgTup, ap_mgSub, ap_mYes, ap_msNext, ap_msSeq, ap_msRet, ap_msRetF, ap_msRetN, ap_msIf, ap_msAsg, ap_msBrk, ap_msCnt, ap_msDrop, ap_msFz, ap_mCallP, ap_mErrF, ap_mFz, ap_mD1, ap_msBad, ap_msPar, mCall_eq, sb_ok, sb_er, sl_ok, sl_er, so_ok, sn_ok, vw_t, vws_nil, vws_cons, unT_nil, unT_cons, sq1, sq2, ln1, ln2, tr1, tr2, oEq_int, oI, blD, Zy.intD, frz, szB, h, hc]
/-! ### told_rows -/
def toldM (L : List (List Int)) : Mu := [foundM L, .lst [.t (.str "told"), .r 0]]
theorem told_ok {t : T} {rows : List (List Int)} (h : f_checked_amounts K Z [t] = .ok (.lst (rows.map rowT))) (hs : okS rows) (hl : ∀ ns ∈ rows, ns.length ≤ 1000) : f__law_told_rows K Z [.t t] [] = .ok (.r 1) (toldM (leastR mostI (sortC rows) [])) := by
  have hL := rows_ok h hs hl
  have hc : callM (f_least_rows K Z) [] 1 [.t t] [] = _ := callT (ts := [t]) rfl hL
  have hb : backM [] [] (.r 0) [foundM (leastR mostI (sortC rows) [])] = .ok (.r 0) [foundM (leastR mostI (sortC rows) [])] := back_new (m := foundM (leastR mostI (sortC rows) [])) rfl (pur_lst _)
  have hc' : callM (f_least_rows K Z) [] 1 [.t t] [] = .ok (.r 0) [foundM (leastR mostI (sortC rows) [])] := hc.trans hb
  have h1 : msAsg (mLstR (mCons (mC (.str "told")) (mCons (mCall (f_least_rows K Z) [] 1 (mCons (mVar 0) (mNil))) (mNil)))) (mgName 1) [some (.t t), none, none] [] = some (.nx [some (.t t), some (.r 1), none] (toldM (leastR mostI (sortC rows) []))) := by
    simp [outM, ap_mP, ap_mC, ap_mVar, ap_m1, ap_m2, ap_mN, ap_mIx, ap_mNil, ap_mCons, ap_mLst, ap_mLstR, ap_mTup, ap_mTru, ap_mBl, ap_mAndT, ap_mOrT, ap_mNotT, ap_mIf, ap_mAndV, ap_mOrV, ap_mNotV, ap_moNone, ap_moSome, ap_mSl, ap_mgName, ap_mgNil, ap_mgCons, ap_mgTup, ap_mgSub, ap_mYes, ap_msNext, ap_msSeq, ap_msRet, ap_msRetF, ap_msRetN, ap_msIf, ap_msAsg, ap_msBrk, ap_msCnt, ap_msDrop, ap_msFz, ap_mCallP, ap_mErrF, ap_mFz, ap_mD1, ap_msBad, ap_msPar, mCall_eq, sb_ok, sb_er, sl_ok, sl_er, so_ok, sn_ok, vw_t, vws_nil, vws_cons, unT_nil, unT_cons, sq1, sq2, ln1, ln2, tr1, tr2, oEq_int, oI, blD, Zy.intD, frz, szB, hc', sizeLine_eq, toldM]
  refine runM_ev (ρ := [some (.t t), none, none]) (o := some (.rt (.r 1) (toldM (leastR mostI (sortC rows) [])))) rfl ?_ rfl
  unfold g__law_told_rows
  rw [sq_nx _ _ _ _ _ _ (try_nx h1)]; rfl
theorem told_er (X : Fx P w K mg base Z) {t : T} {j : T} (h : f_checked_amounts K Z [t] = .er (.own Z.a_BadAmounts [eBadAmounts.f] [j])) : f__law_told_rows K Z [.t t] [] = .ok (.r 0) [.lst [.t (.str "refused"), .t j]] := by
  have hL := rows_er h
  have hc : callM (f_least_rows K Z) [] 1 [.t t] [] = .er (.own Z.a_BadAmounts [eBadAmounts.f] [j]) [] := callT (ts := [t]) rfl hL
  have h1 : msAsg (mLstR (mCons (mC (.str "told")) (mCons (mCall (f_least_rows K Z) [] 1 (mCons (mVar 0) (mNil))) (mNil)))) (mgName 1) [some (.t t), none, none] [] = some (.er (.own Z.a_BadAmounts [eBadAmounts.f] [j]) [some (.t t), none, none] []) := by
    simp [outM, ap_mP, ap_mC, ap_mVar, ap_m1, ap_m2, ap_mN, ap_mIx, ap_mNil, ap_mCons, ap_mLst, ap_mLstR, ap_mTup, ap_mTru, ap_mBl, ap_mAndT, ap_mOrT, ap_mNotT, ap_mIf, ap_mAndV, ap_mOrV, ap_mNotV, ap_moNone, ap_moSome, ap_mSl, ap_mgName, ap_mgNil, ap_mgCons, ap_mgTup, ap_mgSub, ap_mYes, ap_msNext, ap_msSeq, ap_msRet, ap_msRetF, ap_msRetN, ap_msIf, ap_msAsg, ap_msBrk, ap_msCnt, ap_msDrop, ap_msFz, ap_mCallP, ap_mErrF, ap_mFz, ap_mD1, ap_msBad, ap_msPar, mCall_eq, sb_ok, sb_er, sl_ok, sl_er, so_ok, sn_ok, vw_t, vws_nil, vws_cons, unT_nil, unT_cons, sq1, sq2, ln1, ln2, tr1, tr2, oEq_int, oI, blD, Zy.intD, frz, szB, hc]
  refine runM_ev (ρ := [some (.t t), none, none]) (o := some (.rt (.r 0) [.lst [.t (.str "refused"), .t j]])) rfl ?_ rfl
  unfold g__law_told_rows
  rw [sq_nx _ _ _ _ _ _ (try_er (o := some (.nx [some (.t t), some (.r 0), none] [.lst [.t (.str "refused"), .t j]])) h1 (hnd_own X.x_BadAmounts_BadAmounts fun a dd => ?_))]
  · rfl
  · simp [outM, ap_mP, ap_mC, ap_mVar, ap_m1, ap_m2, ap_mN, ap_mIx, ap_mNil, ap_mCons, ap_mLst, ap_mLstR, ap_mTup, ap_mTru, ap_mBl, ap_mAndT, ap_mOrT, ap_mNotT, ap_mIf, ap_mAndV, ap_mOrV, ap_mNotV, ap_moNone, ap_moSome, ap_mSl, ap_mgName, ap_mgNil, ap_mgCons, ap_mgTup, ap_mgSub, ap_mYes, ap_msNext, ap_msSeq, ap_msRet, ap_msRetF, ap_msRetN, ap_msIf, ap_msAsg, ap_msBrk, ap_msCnt, ap_msDrop, ap_msFz, ap_mCallP, ap_mErrF, ap_mFz, ap_mD1, ap_msBad, ap_msPar, mCall_eq, sb_ok, sb_er, sl_ok, sl_er, so_ok, sn_ok, vw_t, vws_nil, vws_cons, unT_nil, unT_cons, sq1, sq2, ln1, ln2, tr1, tr2, oEq_int, oI, blD, Zy.intD, frz, szB, ap_mErrF, sizeLine_eq, eBadAmounts, clrM]
/-! ### told_cost -/
theorem tcost_ok {t u v : T} (h : f_cost K Z [t, u] = .ok v) : f__law_told_cost K Z [.t t, .t u] [] = .ok (.t (.lst [.str "told", v])) [] := by
  have h1 : msAsg (mLst (mCons (mC (.str "told")) (mCons (mCallP (f_cost K Z) [] 2 (mCons (mVar 0) (mCons (mVar 1) (mNil)))) (mNil)))) (mgName 2) [some (.t t), some (.t u), none, none] [] = some (.nx [some (.t t), some (.t u), some (.t (.lst [.str "told", v])), none] []) := by
    simp [outM, ap_mP, ap_mC, ap_mVar, ap_m1, ap_m2, ap_mN, ap_mIx, ap_mNil, ap_mCons, ap_mLst, ap_mLstR, ap_mTup, ap_mTru, ap_mBl, ap_mAndT, ap_mOrT, ap_mNotT, ap_mIf, ap_mAndV, ap_mOrV, ap_mNotV, ap_moNone, ap_moSome, ap_mSl, ap_mgName, ap_mgNil, ap_mgCons, ap_mgTup, ap_mgSub, ap_mYes, ap_msNext, ap_msSeq, ap_msRet, ap_msRetF, ap_msRetN, ap_msIf, ap_msAsg, ap_msBrk, ap_msCnt, ap_msDrop, ap_msFz, ap_mCallP, ap_mErrF, ap_mFz, ap_mD1, ap_msBad, ap_msPar, mCall_eq, sb_ok, sb_er, sl_ok, sl_er, so_ok, sn_ok, vw_t, vws_nil, vws_cons, unT_nil, unT_cons, sq1, sq2, ln1, ln2, tr1, tr2, oEq_int, oI, blD, Zy.intD, frz, szB, h, sizeLine_eq]
  refine runM_ev (ρ := [some (.t t), some (.t u), none, none]) (o := some (.rt (.t (.lst [.str "told", v])) [])) rfl ?_ rfl
  unfold g__law_told_cost
  rw [sq_nx _ _ _ _ _ _ (try_nx h1)]; rfl
theorem tcost_er {t u j : T} {C : Addr} {f : Str} (h : f_cost K Z [t, u] = .er (.own C [f] [j])) : msAsg (mLst (mCons (mC (.str "told")) (mCons (mCallP (f_cost K Z) [] 2 (mCons (mVar 0) (mCons (mVar 1) (mNil)))) (mNil)))) (mgName 2) [some (.t t), some (.t u), none, none] [] = some (.er (.own C [f] [j]) [some (.t t), some (.t u), none, none] []) := by
  simp [outM, ap_mP, ap_mC, ap_mVar, ap_m1, ap_m2, ap_mN, ap_mIx, ap_mNil, ap_mCons, ap_mLst, ap_mLstR, ap_mTup, ap_mTru, ap_mBl, ap_mAndT, ap_mOrT, ap_mNotT, ap_mIf, ap_mAndV, ap_mOrV, ap_mNotV, ap_moNone, ap_moSome, ap_mSl, ap_mgName, ap_mgNil, ap_mgCons, ap_mgTup, ap_mgSub, ap_mYes, ap_msNext, ap_msSeq, ap_msRet, ap_msRetF, ap_msRetN, ap_msIf, ap_msAsg, ap_msBrk, ap_msCnt, ap_msDrop, ap_msFz, ap_mCallP, ap_mErrF, ap_mFz, ap_mD1, ap_msBad, ap_msPar, mCall_eq, sb_ok, sb_er, sl_ok, sl_er, so_ok, sn_ok, vw_t, vws_nil, vws_cons, unT_nil, unT_cons, sq1, sq2, ln1, ln2, tr1, tr2, oEq_int, oI, blD, Zy.intD, frz, szB, h]
theorem tcost_amount (X : Fx P w K mg base Z) {t u j : T} (h : f_cost K Z [t, u] = .er (.own Z.a_BadAmount [eBadAmount.f] [j])) : f__law_told_cost K Z [.t t, .t u] [] = .ok (.t (.lst [.str "amount", j])) [] := by
  refine runM_ev (ρ := [some (.t t), some (.t u), none, none]) (o := some (.rt (.t (.lst [.str "amount", j])) [])) rfl ?_ rfl
  unfold g__law_told_cost
  rw [sq_nx _ _ _ _ _ _ (try_er (o := some (.nx [some (.t t), some (.t u), some (.t (.lst [.str "amount", j])), none] [])) (tcost_er h) (hnd_own X.x_BadAmount_BadAmount fun a dd => ?_))]
  · rfl
  · simp [outM, ap_mP, ap_mC, ap_mVar, ap_m1, ap_m2, ap_mN, ap_mIx, ap_mNil, ap_mCons, ap_mLst, ap_mLstR, ap_mTup, ap_mTru, ap_mBl, ap_mAndT, ap_mOrT, ap_mNotT, ap_mIf, ap_mAndV, ap_mOrV, ap_mNotV, ap_moNone, ap_moSome, ap_mSl, ap_mgName, ap_mgNil, ap_mgCons, ap_mgTup, ap_mgSub, ap_mYes, ap_msNext, ap_msSeq, ap_msRet, ap_msRetF, ap_msRetN, ap_msIf, ap_msAsg, ap_msBrk, ap_msCnt, ap_msDrop, ap_msFz, ap_mCallP, ap_mErrF, ap_mFz, ap_mD1, ap_msBad, ap_msPar, mCall_eq, sb_ok, sb_er, sl_ok, sl_er, so_ok, sn_ok, vw_t, vws_nil, vws_cons, unT_nil, unT_cons, sq1, sq2, ln1, ln2, tr1, tr2, oEq_int, oI, blD, Zy.intD, frz, szB, ap_mErrF, sizeLine_eq, eBadAmount, clrM]
theorem tcost_prices (X : Fx P w K mg base Z) {t u j : T} (h : f_cost K Z [t, u] = .er (.own Z.a_BadPrices [eBadPrices.f] [j])) : f__law_told_cost K Z [.t t, .t u] [] = .ok (.t (.lst [.str "prices", j])) [] := by
  refine runM_ev (ρ := [some (.t t), some (.t u), none, none]) (o := some (.rt (.t (.lst [.str "prices", j])) [])) rfl ?_ rfl
  unfold g__law_told_cost
  rw [sq_nx _ _ _ _ _ _ (try_er (o := some (.nx [some (.t t), some (.t u), some (.t (.lst [.str "prices", j])), none] [])) (tcost_er h) ((hnd_skip X.x_BadPrices_BadAmount).trans (hnd_own X.x_BadPrices_BadPrices fun a dd => ?_)))]
  · rfl
  · simp [outM, ap_mP, ap_mC, ap_mVar, ap_m1, ap_m2, ap_mN, ap_mIx, ap_mNil, ap_mCons, ap_mLst, ap_mLstR, ap_mTup, ap_mTru, ap_mBl, ap_mAndT, ap_mOrT, ap_mNotT, ap_mIf, ap_mAndV, ap_mOrV, ap_mNotV, ap_moNone, ap_moSome, ap_mSl, ap_mgName, ap_mgNil, ap_mgCons, ap_mgTup, ap_mgSub, ap_mYes, ap_msNext, ap_msSeq, ap_msRet, ap_msRetF, ap_msRetN, ap_msIf, ap_msAsg, ap_msBrk, ap_msCnt, ap_msDrop, ap_msFz, ap_mCallP, ap_mErrF, ap_mFz, ap_mD1, ap_msBad, ap_msPar, mCall_eq, sb_ok, sb_er, sl_ok, sl_er, so_ok, sn_ok, vw_t, vws_nil, vws_cons, unT_nil, unT_cons, sq1, sq2, ln1, ln2, tr1, tr2, oEq_int, oI, blD, Zy.intD, frz, szB, ap_mErrF, sizeLine_eq, eBadPrices, clrM]
end
end K1
set_option Elab.async false
set_option linter.all false
set_option maxRecDepth 100000
set_option maxHeartbeats 400000
namespace K1
open PySem PySem.Spec PyProof.Rows L2 Zy
/-! ### the least rows, two ways -/
theorem most_cons (x y : Int) (a b : List Int) : mostI (x :: a) (y :: b) = (decide (x ≤ y) && mostI a b) := rfl
theorem most_refl : ∀ a : List Int, mostI a a = true
  | [] => rfl
  | x :: a => by rw [most_cons, most_refl a]; simp
theorem most_trans : ∀ {a b c : List Int}, a.length = b.length → b.length = c.length → mostI a b = true → mostI b c = true → mostI a c = true
  | [], [], _, _, _, _, _ => by cases ‹List Int› <;> rfl
  | [], _ :: _, _, h, _, _, _ => by cases h
  | _ :: _, [], _, h, _, _, _ => by cases h
  | _ :: _, _ :: _, [], _, h, _, _ => by cases h
  | x :: a, y :: b, z :: c, h1, h2, h3, h4 => by
    rw [most_cons] at h3 h4 ⊢
    obtain ⟨h5, h6⟩ := and2 h3
    obtain ⟨h7, h8⟩ := and2 h4
    rw [most_trans (by simpa using h1) (by simpa using h2) h6 h8, decide_eq_true (Int.le_trans (of_decide_eq_true h5) (of_decide_eq_true h7))]; rfl
theorem most_code {B : Int} (hB : 0 ≤ B) : ∀ {a b : List Int}, a.length = b.length → mostI a b = true → TS.code B a ≤ TS.code B b
  | [], [], _, _ => Int.le_refl _
  | [], _ :: _, h, _ => by cases h
  | _ :: _, [], h, _ => by cases h
  | x :: a, y :: b, h1, h3 => by
    rw [most_cons] at h3
    obtain ⟨h5, h6⟩ := and2 h3
    have hl : a.length = b.length := by simpa using h1
    rw [code_cons, code_cons, hl]
    have := most_code hB hl h6
    have hq : 0 ≤ B ^ b.length := Int.pow_nonneg hB
    have h7 := Int.mul_le_mul_of_nonneg_right (of_decide_eq_true h5) hq
    omega
theorem code_le {B C : Int} : ∀ {a b : List Int}, a.length = b.length → TS.Bd B a → TS.Bd B b → TS.Bd C a → TS.Bd C b → TS.code B a ≤ TS.code B b → TS.code C a ≤ TS.code C b
  | [], [], _, _, _, _, _, _ => Int.le_refl _
  | [], _ :: _, h, _, _, _, _, _ => by cases h
  | _ :: _, [], h, _, _, _, _, _ => by cases h
  | x :: a, y :: b, h1, p1, p2, q1, q2, h => by
    have hl : a.length = b.length := by simpa using h1
    rw [code_cons, code_cons, hl] at h ⊢
    have b1 := TS.code_bd a p1.tail
    have b2 := TS.code_bd b p2.tail
    have c1 := TS.code_bd a q1.tail
    have c2 := TS.code_bd b q2.tail
    rw [hl] at b1 c1
    rcases Int.lt_trichotomy x y with z | z | z
    · have := TS.num2 (P := C ^ b.length) c1.1 c1.2 c2.1 z; omega
    · subst z
      have := code_le hl p1.tail p2.tail q1.tail q2.tail (by omega)
      omega
    · have := TS.num2 (P := B ^ b.length) b2.1 b2.2 b1.1 z; omega
theorem leastR_sub : ∀ (l acc : List (List Int)), ∃ s, leastR mostI l acc = acc ++ s ∧ s.Sublist l
  | [], acc => ⟨[], (List.append_nil _).symm, List.Sublist.refl _⟩
  | x :: l, acc => by
    by_cases hb : (acc.any fun one => mostI one x) = true
    · obtain ⟨s, e, h⟩ := leastR_sub l acc
      refine ⟨s, ?_, h.cons _⟩
      show leastR mostI l (if _ then _ else _) = _
      rw [if_pos hb, e]
    · obtain ⟨s, e, h⟩ := leastR_sub l (acc ++ [x])
      refine ⟨x :: s, ?_, h.cons₂ _⟩
      show leastR mostI l (if _ then _ else _) = _
      rw [if_neg hb, e, List.append_assoc]; rfl
theorem leastR_spec {n : Nat} : ∀ (l acc pre : List (List Int)), (∀ x ∈ pre ++ l, x.length = n) → (∀ x ∈ pre, ∃ y ∈ acc, mostI y x = true) → (∀ y ∈ acc, y ∈ pre) → acc.Nodup → (∀ x ∈ pre, ∀ y ∈ l, mostI y x = true → y = x) → l.Pairwise (fun x y => mostI y x = true → y = x) → (∀ y ∈ acc, ∀ z ∈ pre, mostI z y = true → z = y) →
    (leastR mostI l acc).Nodup ∧ (∀ x ∈ leastR mostI l acc, x ∈ pre ++ l ∧ ∀ z ∈ pre ++ l, mostI z x = true → z = x) ∧ ∀ x ∈ pre ++ l, ∃ y ∈ leastR mostI l acc, mostI y x = true
  | [], acc, pre, hn, h1, h2, h3, _, _, h6 => by
    rw [List.append_nil]
    exact ⟨h3, fun x hx => ⟨h2 x hx, h6 x hx⟩, h1⟩
  | x :: l, acc, pre, hn, h1, h2, h3, h4, h5, h6 => by
    have e : pre ++ x :: l = (pre ++ [x]) ++ l := by simp
    have h5' := List.pairwise_cons.mp h5
    rw [e] at hn ⊢
    have hxl : ∀ p ∈ pre ++ [x], ∀ y ∈ l, mostI y p = true → y = p := fun p hp y hy => by
      rcases List.mem_append.mp hp with z | z
      · exact h4 p z y (List.mem_cons_of_mem _ hy)
      · rw [List.mem_singleton.mp z]; exact h5'.1 y hy
    have hlen : ∀ p ∈ pre ++ [x], p.length = n := fun p hp => hn p (List.mem_append_left _ hp)
    by_cases hb : (acc.any fun one => mostI one x) = true
    · show (leastR mostI l (if _ then _ else _)).Nodup ∧ _
      have e2 : leastR mostI (x :: l) acc = leastR mostI l acc := by show leastR mostI l (if _ then _ else _) = _; rw [if_pos hb]
      show (leastR mostI (x :: l) acc).Nodup ∧ _
      rw [e2]
      obtain ⟨o, ho, hox⟩ := List.any_eq_true.mp hb
      refine leastR_spec l acc (pre ++ [x]) hn (fun p hp => ?_) (fun y hy => List.mem_append_left _ (h2 y hy)) h3 hxl h5'.2 fun y hy z hz hzy => ?_
      · rcases List.mem_append.mp hp with z | z
        · exact h1 p z
        · rw [List.mem_singleton.mp z]; exact ⟨o, ho, hox⟩
      · rcases List.mem_append.mp hz with q | q
        · exact h6 y hy z q hzy
        · have := List.mem_singleton.mp q; subst this
          exact h4 y (h2 y hy) z List.mem_cons_self hzy
    · have e2 : leastR mostI (x :: l) acc = leastR mostI l (acc ++ [x]) := by show leastR mostI l (if _ then _ else _) = _; rw [if_neg hb]
      rw [e2]
      have hno : ∀ o ∈ acc, mostI o x ≠ true := fun o ho hox => hb (List.any_eq_true.mpr ⟨o, ho, hox⟩)
      refine leastR_spec l (acc ++ [x]) (pre ++ [x]) hn (fun p hp => ?_) (fun y hy => ?_) ?_ hxl h5'.2 fun y hy z hz hzy => ?_
      · rcases List.mem_append.mp hp with z | z
        · obtain ⟨y, hy, hyp⟩ := h1 p z
          exact ⟨y, List.mem_append_left _ hy, hyp⟩
        · rw [List.mem_singleton.mp z]; exact ⟨x, List.mem_append_right _ (List.mem_singleton.mpr rfl), most_refl x⟩
      · rcases List.mem_append.mp hy with z | z
        · exact List.mem_append_left _ (h2 y z)
        · exact List.mem_append_right _ z
      · refine List.nodup_append.mpr ⟨h3, by simp, fun a ha b hb' => ?_⟩
        have := List.mem_singleton.mp hb'; subst this
        intro q; subst q
        exact hno a ha (most_refl a)
      · rcases List.mem_append.mp hy with hy' | hy'
        · rcases List.mem_append.mp hz with q | q
          · exact h6 y hy' z q hzy
          · have := List.mem_singleton.mp q; subst this
            exact h4 y (h2 y hy') z List.mem_cons_self hzy
        · have := List.mem_singleton.mp hy'; subst this
          rcases List.mem_append.mp hz with q | q
          · obtain ⟨o, ho, hoz⟩ := h1 z q
            have l1 := hlen o (List.mem_append_left _ (h2 o ho))
            have l2 := hlen z (List.mem_append_left _ q)
            have l3 := hlen y (List.mem_append_right _ (List.mem_singleton.mpr rfl))
            exact absurd (most_trans (l1.trans l2.symm) (l2.trans l3.symm) hoz hzy) (hno o ho)
          · exact List.mem_singleton.mp q
/-- the first of each -/
def distI (pre : List (List Int)) : List (List Int) → List (List Int)
  | [] => []
  | x :: l => if x ∈ pre then distI (pre ++ [x]) l else x :: distI (pre ++ [x]) l
def minI (l : List (List Int)) : List (List Int) := l.filter fun row => !(l.any fun one => decide (one ≠ row) && mostI one row)
theorem dist_mem : ∀ (l pre : List (List Int)) (x : List Int), x ∈ distI pre l ↔ x ∈ l ∧ x ∉ pre
  | [], pre, x => by simp [distI]
  | y :: l, pre, x => by
    have ih := dist_mem l (pre ++ [y]) x
    unfold distI
    by_cases h : y ∈ pre
    · rw [if_pos h, ih]
      constructor
      · rintro ⟨a, b⟩; exact ⟨List.mem_cons_of_mem _ a, fun c => b (List.mem_append_left _ c)⟩
      · rintro ⟨a, b⟩
        rcases List.mem_cons.mp a with rfl | a
        · exact absurd h b
        · refine ⟨a, fun c => ?_⟩
          rcases List.mem_append.mp c with c | c
          · exact b c
          · rw [List.mem_singleton.mp c] at b; exact b h
    · rw [if_neg h, List.mem_cons, ih, List.mem_cons]
      constructor
      · rintro (rfl | ⟨a, b⟩)
        · exact ⟨.inl rfl, h⟩
        · exact ⟨.inr a, fun c => b (List.mem_append_left _ c)⟩
      · rintro ⟨a, b⟩
        by_cases q : x = y
        · exact .inl q
        · refine .inr ⟨a.resolve_left q, fun c => ?_⟩
          rcases List.mem_append.mp c with c | c
          · exact b c
          · exact q (List.mem_singleton.mp c)
theorem dist_nodup : ∀ (l pre : List (List Int)), (distI pre l).Nodup
  | [], pre => List.nodup_nil
  | y :: l, pre => by
    unfold distI
    by_cases h : y ∈ pre
    · rw [if_pos h]; exact dist_nodup l _
    · rw [if_neg h]
      refine List.nodup_cons.mpr ⟨fun c => ?_, dist_nodup l _⟩
      exact ((dist_mem l _ y).mp c).2 (List.mem_append_right _ (List.mem_singleton.mpr rfl))
theorem okS_sub {l m : List (List Int)} (h : okS l) (hl : m.length ≤ l.length) (hm : ∀ x ∈ m, x ∈ l) : okS m := by
  refine ⟨by have := h.1; omega, ?_, fun n hn => ⟨?_, (h.2.2 n (hm n hn)).2⟩⟩
  · cases m with
    | nil => exact Nat.le_refl _
    | cons a m => have := (h.2.2 a (hm a List.mem_cons_self)).1; show 1 ≤ a.length; have := h.2.1; omega
  · have e := (h.2.2 n (hm n hn)).1
    cases m with
    | nil => cases hn
    | cons a m => have := (h.2.2 a (hm a List.mem_cons_self)).1; show n.length = a.length; omega
theorem dist_len : ∀ (l pre : List (List Int)), (distI pre l).length ≤ l.length
  | [], pre => Nat.le_refl _
  | y :: l, pre => by
    unfold distI
    have := dist_len l (pre ++ [y])
    split
    · simp; omega
    · simp; omega
theorem min_ok {rows : List (List Int)} (h : okS rows) : okS (distI [] rows) ∧ okS (minI (distI [] rows)) := by
  have h1 : okS (distI [] rows) := okS_sub h (dist_len _ _) fun x hx => ((dist_mem _ _ _).mp hx).1
  exact ⟨h1, okS_sub h1 (List.length_filter_le _ _) fun x hx => (List.mem_filter.mp hx).1⟩
theorem least_eq {rows : List (List Int)} (h : okS rows) : leastR mostI (sortC rows) [] = sortC (minI (distI [] rows)) := by
  have hbd := okS_bd h
  have hp := sortC_perm rows
  have hm : ∀ x, x ∈ sortC rows ↔ x ∈ rows := fun x => hp.mem_iff
  have hpw := sortC_pw rows
  have hB : 0 ≤ top1 rows := by
    have := (foldl_max (l := rows.flatten) 0).1
    unfold top1; omega
  have hpw2 : (sortC rows).Pairwise (fun x y => mostI y x = true → y = x) := by
    refine hpw.imp_of_mem fun {x y} hx hy hc hxy => ?_
    have bx := hbd x ((hm x).mp hx)
    have by' := hbd y ((hm y).mp hy)
    have h2 := most_code hB (by'.1.trans bx.1.symm) hxy
    exact code_inj (by'.1.trans bx.1.symm) by'.2 bx.2 (by omega)
  obtain ⟨s1, s2, s3⟩ := leastR_spec (n := wid rows) (sortC rows) [] [] (fun x hx => (hbd x ((hm x).mp (by simpa using hx))).1) (fun _ h => nomatch h) (fun _ h => nomatch h) List.nodup_nil (fun _ h => nomatch h) hpw2 (fun _ h => nomatch h)
  obtain ⟨s, e, hsub⟩ := leastR_sub (sortC rows) []
  have hpw3 : (leastR mostI (sortC rows) []).Pairwise fun a b => TS.code (top1 rows) a ≤ TS.code (top1 rows) b := by
    rw [e]; exact hpw.sublist hsub
  have hmem : ∀ x, x ∈ leastR mostI (sortC rows) [] ↔ x ∈ minI (distI [] rows) := fun x => by
    have hd : ∀ z, z ∈ distI [] rows ↔ z ∈ rows := fun z => by rw [dist_mem]; simp
    constructor
    · intro hx
      obtain ⟨a, b⟩ := s2 x hx
      refine List.mem_filter.mpr ⟨(hd x).mpr ((hm x).mp (by simpa using a)), ?_⟩
      rw [Bool.not_eq_true', List.any_eq_false]
      intro z hz q
      obtain ⟨q1, q2⟩ := and2 q
      exact (of_decide_eq_true q1) (b z (by simpa using (hm z).mpr ((hd z).mp hz)) q2)
    · intro hx
      obtain ⟨a, b⟩ := List.mem_filter.mp hx
      rw [Bool.not_eq_true', List.any_eq_false] at b
      have ha := (hm x).mpr ((hd x).mp a)
      obtain ⟨y, hy, hyx⟩ := s3 x (by simpa using ha)
      have hy2 := (s2 y hy).1
      by_cases q : y = x
      · rw [← q]; exact hy
      · exact absurd (by rw [decide_eq_true q, hyx]; rfl) (b y ((hd y).mpr ((hm y).mp (by simpa using hy2))))
  have ok2 := (min_ok h).2
  have hp2 := sortC_perm (minI (distI [] rows))
  have n2 : (minI (distI [] rows)).Nodup := (dist_nodup rows []).sublist List.filter_sublist
  have perm : (leastR mostI (sortC rows) []).Perm (sortC (minI (distI [] rows))) :=
    ((List.perm_ext_iff_of_nodup s1 n2).mpr hmem).trans hp2.symm
  have hin : ∀ x ∈ minI (distI [] rows), x ∈ rows := fun x hx => ((dist_mem _ _ _).mp (List.mem_filter.mp hx).1).1
  refine sort_uniq (TS.code (top1 rows)) perm hpw3 ?_ fun a ha b hb hc => ?_
  · refine (sortC_pw (minI (distI [] rows))).imp_of_mem fun {x y} hx hy hc => ?_
    have hx := hp2.mem_iff.mp hx
    have hy := hp2.mem_iff.mp hy
    have b1 := okS_bd ok2 x hx
    have b2 := okS_bd ok2 y hy
    exact code_le (b1.1.trans b2.1.symm) b1.2 b2.2 (hbd x (hin x hx)).2 (hbd y (hin y hy)).2 hc
  · have ha' := hbd a (hin a ((hmem a).mp ha))
    have hb' := hbd b (hin b ((hmem b).mp hb))
    exact code_inj (ha'.1.trans hb'.1.symm) ha'.2 hb'.2 hc
end K1
set_option Elab.async false
set_option linter.all false
set_option maxRecDepth 100000
set_option maxHeartbeats 400000
namespace K1
open PySem PySem.Spec PyProof.Rows L2 Zy
section
variable {P : Program} {w : World} {K : PySem.W.Frag} {mg : Str → Option Value} {base : Heap} {Z : Ads}
theorem eqv_ints : ∀ a b : List Int, PyData.eqvAll (a.map PyData.int) (b.map PyData.int) = decide (a = b)
  | [], [] => by simp [PyData.eqvAll]
  | [], _ :: _ => by simp [PyData.eqvAll]
  | _ :: _, [] => by simp [PyData.eqvAll]
  | x :: a, y :: b => by
    have := eqv_ints a b
    rw [List.map_cons, List.map_cons]
    unfold PyData.eqvAll
    rw [this]
    by_cases h : x = y <;> by_cases q : a = b <;> simp [PyData.eqv, h, q]
theorem eqv_row (a b : List Int) : PyData.eqv (rowP a) (rowP b) = decide (a = b) := by
  have := eqv_ints a b
  simp [PyData.eqv, this]
theorem oNe_row (a b : List Int) : oNe (rowT a) (rowT b) = some (.bl (!decide (a = b))) := by
  unfold oNe
  rw [dat_row, dat_row]
  show some (T.bl (!PyData.eqv (rowP a) (rowP b))) = _
  rw [eqv_row]
theorem oNotIn_rows (a : List Int) (l : List (List Int)) : oNotIn (rowT a) (.lst (l.map rowT)) = some (.bl (!decide (a ∈ l))) := by
  have h : inB (rowT a) (.lst (l.map rowT)) = some (decide (a ∈ l)) := by
    show inDt (rowT a) (.lst (l.map rowT)) = _
    unfold inDt
    rw [dat_row, dat_rows]
    show some ((l.map rowP).any fun z => PyData.eqv z (rowP a)) = _
    rw [List.any_map]
    congr 1
    rw [Bool.eq_iff_iff, List.any_eq_true, decide_eq_true_iff]
    constructor
    · rintro ⟨x, hx, h⟩
      have h' : PyData.eqv (rowP x) (rowP a) = true := h
      rw [eqv_row] at h'
      rw [← of_decide_eq_true h']; exact hx
    · intro h
      refine ⟨a, h, ?_⟩
      show PyData.eqv (rowP a) (rowP a) = true
      rw [eqv_row]; simp
  show (inB (rowT a) (.lst (l.map rowT))).map _ = _
  rw [h]; rfl
theorem slice_to (l : List T) (k : Nat) (hk : k ≤ l.length) (hz : l.length ≤ 1000) : slT none (some k) (.lst l) = some (.lst (l.take k)) := by
  unfold slT
  show ((szL l).map fun l => T.lst (cutT l none (some k))) = _
  unfold szL
  rw [if_pos (le_size (by omega))]
  show some (T.lst (cutT l none (some k))) = _
  unfold cutT
  have h1 : HT.sIx l.length 0 none = 0 := rfl
  have h2 : HT.sIx l.length l.length (some (k : Int)) = k := by
    have hn : ¬ ((k : Int) < 0) := by omega
    simp [HT.sIx, hn]; omega
  rw [h1, h2]; simp
theorem slice_from (l : List T) (k : Nat) (hk : k ≤ l.length) (hz : l.length ≤ 1000) : slT (some k) none (.lst l) = some (.lst (l.drop k)) := by
  unfold slT
  show ((szL l).map fun l => T.lst (cutT l (some k) none)) = _
  unfold szL
  rw [if_pos (le_size (by omega))]
  show some (T.lst (cutT l (some k) none)) = _
  unfold cutT
  have h1 : HT.sIx l.length l.length none = l.length := rfl
  have h2 : HT.sIx l.length 0 (some (k : Int)) = k := by
    have hn : ¬ ((k : Int) < 0) := by omega
    simp [HT.sIx, hn]; omega
  rw [h1, h2, List.take_of_length_le (by simp)]
theorem compO_filter {tg : Tg} {gt : Gb} {ge : Gx} {ρ : En} {μ : Mu} {α : Type} {i : α → T} {p : α → Bool} : ∀ (l : List α) (acc : List T), (∀ x ∈ l, ∃ ρ', tg (i x) ρ = some ρ' ∧ gt ρ' μ = .ok (p x) ∧ ge ρ' μ = .ok (i x)) → compO tg gt ge ρ μ (l.map i) acc = .ok (acc ++ (l.filter p).map i)
  | [], acc, _ => by show Pr.ok acc = .ok (acc ++ []); rw [List.append_nil]
  | x :: l, acc, h => by
    obtain ⟨ρ', h1, h2, h3⟩ := h x List.mem_cons_self
    have ih := fun acc => compO_filter (tg := tg) (gt := gt) (ge := ge) (ρ := ρ) (μ := μ) (i := i) (p := p) l acc fun y hy => h y (List.mem_cons_of_mem _ hy)
    rw [List.map_cons]
    show (Pr.of (tg (i x) ρ)).bind (fun ρ' => (gt ρ' μ).only.bind fun b => if b = true then (ge ρ' μ).only.bind fun y => compO tg gt ge ρ μ (l.map i) (acc ++ [y]) else compO tg gt ge ρ μ (l.map i) acc) = _
    rw [h1]
    show ((gt ρ' μ).only.bind fun b => if b = true then (ge ρ' μ).only.bind fun y => compO tg gt ge ρ μ (l.map i) (acc ++ [y]) else compO tg gt ge ρ μ (l.map i) acc) = _
    rw [h2]
    show (if p x = true then (ge ρ' μ).only.bind fun y => compO tg gt ge ρ μ (l.map i) (acc ++ [y]) else compO tg gt ge ρ μ (l.map i) acc) = _
    rw [List.filter_cons]
    by_cases hp : p x = true
    · rw [if_pos hp, if_pos hp, h3]
      show compO tg gt ge ρ μ (l.map i) (acc ++ [i x]) = _
      rw [ih, List.append_assoc]; rfl
    · rw [if_neg hp, if_neg hp, ih]
noncomputable def gtD : Gb := (gBl (g2 oNotIn (gVar 3) (gSl (gVar 0) (goNone) (goSome (gVarT 2)))))
theorem comp_dist {rows : List (List Int)} (hz : rows.length ≤ 1000) : ∀ (l pre : List (List Int)) (acc : List T), rows = pre ++ l → compO (tgTup 2 (tgCons (tgName 2) (tgCons (tgName 3) (tgNil)))) gtD (gVarT 3) [some (.t (.lst (rows.map rowT))), none, none, none, none] [] (enO pre.length (l.map rowT)) acc = .ok (acc ++ (distI pre l).map rowT)
  | [], pre, acc, _ => by show Pr.ok acc = .ok (acc ++ []); rw [List.append_nil]
  | x :: l, pre, acc, e => by
    have hl : rows.length = pre.length + (l.length + 1) := by rw [e, List.length_append, List.length_cons]
    have hs := slice_to (rows.map rowT) pre.length (by rw [List.length_map]; omega) (by rw [List.length_map]; omega)
    have ht : (rows.map rowT).take pre.length = pre.map rowT := by rw [e, List.map_append, List.take_append_of_le_length (by simp), List.take_of_length_le (by simp)]
    rw [ht] at hs
    have hn := oNotIn_rows x pre
    have hg : gtD [some (.t (.lst (rows.map rowT))), none, some (.t (.int pre.length)), some (.t (rowT x)), none] [] = .ok (!decide (x ∈ pre)) := by
      simp [gtD, outP, ap_gVar, ap_gVarT, ap_g1, ap_g2, ap_gN, ap_gNil, ap_gCons, ap_gLst, ap_gTup, ap_gTru, ap_gBl, ap_gAndT, ap_gOrT, ap_gNotT, ap_gIf, ap_gAndV, ap_gOrV, ap_gNotV, ap_gCall, ap_goNone, ap_goSome, ap_gSl, ap_giSeq, ap_tgName, ap_tgNil, ap_tgCons, ap_tgTup, ap_gYes, ap_sNext, ap_sSeq, ap_sRet, ap_sRetN, ap_sIf, ap_sAsg, ap_sBrk, ap_sCnt, ap_sNever, ap_sDrop, ap_sRaise, ap_sPar, pb_ok, pb_er, po_ok, pn_ok, pl_ok, pl_er, blT, intT, szL, tr1, tr2, oEq_int, oI, vw_t, hs, hn]
    have e2 : rows = (pre ++ [x]) ++ l := by rw [e]; simp
    have ih := fun acc => comp_dist hz l (pre ++ [x]) acc e2
    rw [List.length_append] at ih
    rw [List.map_cons]
    show ((gtD [some (.t (.lst (rows.map rowT))), none, some (.t (.int pre.length)), some (.t (rowT x)), none] []).only.bind fun b => if b = true then (Pr.ok (rowT x)).only.bind fun y => compO (tgTup 2 (tgCons (tgName 2) (tgCons (tgName 3) (tgNil)))) gtD (gVarT 3) [some (.t (.lst (rows.map rowT))), none, none, none, none] [] (enO (pre.length + 1) (l.map rowT)) (acc ++ [y]) else compO (tgTup 2 (tgCons (tgName 2) (tgCons (tgName 3) (tgNil)))) gtD (gVarT 3) [some (.t (.lst (rows.map rowT))), none, none, none, none] [] (enO (pre.length + 1) (l.map rowT)) acc) = _
    rw [hg]
    unfold distI
    by_cases h : x ∈ pre
    · rw [if_pos h, decide_eq_true h]
      exact ih acc
    · rw [if_neg h, decide_eq_false h]
      show compO _ gtD (gVarT 3) _ [] (enO (pre.length + 1) (l.map rowT)) (acc ++ [rowT x]) = _
      exact (ih (acc ++ [rowT x])).trans (by rw [List.append_assoc]; rfl)
theorem least_ok {rows : List (List Int)} (h : okS rows) (hl : ∀ ns ∈ rows, ns.length ≤ 1000) : f__law_least K Z [.lst (rows.map rowT)] = .ok (.lst ((sortC (minI (distI [] rows))).map rowT)) := by
  have hz := h.1
  have hlen := dist_len rows []
  have hd := comp_dist (rows := rows) (by omega) rows [] [] rfl
  have hen : giO enOp (gCons (gVarT 0) gNil) [some (.t (.lst (rows.map rowT))), none, none, none, none] [] = .ok (enO 0 (rows.map rowT)) := ev_O (l := [.lst (rows.map rowT)]) rfl rfl
  have henl : ∀ (l : List T) (i : Nat), (enO i l).length = l.length := fun l => by
    induction l with
    | nil => intro i; rfl
    | cons x l ih => intro i; show (enO (i + 1) l).length + 1 = _; rw [ih]; rfl
  have h1 : gLc (giO enOp (gCons (gVarT 0) (gNil))) (tgTup 2 (tgCons (tgName 2) (tgCons (tgName 3) (tgNil)))) gtD (gVarT 3) [2, 3] [some (.t (.lst (rows.map rowT))), none, none, none, none] [] = .ok (.lst ((distI [] rows).map rowT)) :=
    ev_lc hen (by rw [henl, List.length_map]; exact le_size (by omega)) (by rw [List.nil_append] at hd; exact hd)
  have hin : ∀ row ∈ distI [] rows, gLc (giSeq (gVar 1)) (tgName 4) (gYes) (gAndV (g2 oNe (gVar 4) (gVar 3)) (gCall (f__law_most K Z) [] (gCons (gVarT 4) (gCons (gVarT 3) (gNil))))) [4] [some (.t (.lst (rows.map rowT))), some (.t (.lst ((distI [] rows).map rowT))), none, some (.t (rowT row)), none] [] = .ok (.lst ((distI [] rows).map fun one => .bl (decide (one ≠ row) && mostI one row))) := fun row hrow =>
    ev_lc (l := (distI [] rows).map rowT) (ev_seq (ev_var rfl rfl) rfl) (by rw [List.length_map]; exact le_size (by omega)) (by
      have := compO_mapG (tg := tgName 4) (ge := gAndV (g2 oNe (gVar 4) (gVar 3)) (gCall (f__law_most K Z) [] (gCons (gVarT 4) (gCons (gVarT 3) (gNil))))) (ρ := wipeE [some (.t (.lst (rows.map rowT))), some (.t (.lst ((distI [] rows).map rowT))), none, some (.t (rowT row)), none] [4]) (μ := []) (i := rowT) (o := fun one => .bl (decide (one ≠ row) && mostI one row)) (distI [] rows) [] (fun one ho => ⟨_, rfl, by
        have hn := oNe_row one row
        have hm := most_ok (K := K) (Z := Z) (t := rowT one) (u := rowT row) (ns := one) (ms := row) (hl one ((dist_mem _ _ _).mp ho).1) (.inr rfl) (.inr rfl)
        by_cases q : one = row
        · subst q
          simp at hn
          simp [outP, ap_gVar, ap_gVarT, ap_g1, ap_g2, ap_gN, ap_gNil, ap_gCons, ap_gLst, ap_gTup, ap_gTru, ap_gBl, ap_gAndT, ap_gOrT, ap_gNotT, ap_gIf, ap_gAndV, ap_gOrV, ap_gNotV, ap_gCall, ap_goNone, ap_goSome, ap_gSl, ap_giSeq, ap_tgName, ap_tgNil, ap_tgCons, ap_tgTup, ap_gYes, ap_sNext, ap_sSeq, ap_sRet, ap_sRetN, ap_sIf, ap_sAsg, ap_sBrk, ap_sCnt, ap_sNever, ap_sDrop, ap_sRaise, ap_sPar, pb_ok, pb_er, po_ok, pn_ok, pl_ok, pl_er, blT, intT, szL, tr1, tr2, oEq_int, oI, vw_t, wipeE, hn, truT]
        · simp [q] at hn
          simp [outP, ap_gVar, ap_gVarT, ap_g1, ap_g2, ap_gN, ap_gNil, ap_gCons, ap_gLst, ap_gTup, ap_gTru, ap_gBl, ap_gAndT, ap_gOrT, ap_gNotT, ap_gIf, ap_gAndV, ap_gOrV, ap_gNotV, ap_gCall, ap_goNone, ap_goSome, ap_gSl, ap_giSeq, ap_tgName, ap_tgNil, ap_tgCons, ap_tgTup, ap_gYes, ap_sNext, ap_sSeq, ap_sRet, ap_sRetN, ap_sIf, ap_sAsg, ap_sBrk, ap_sCnt, ap_sNever, ap_sDrop, ap_sRaise, ap_sPar, pb_ok, pb_er, po_ok, pn_ok, pl_ok, pl_er, blT, intT, szL, tr1, tr2, oEq_int, oI, vw_t, wipeE, hn, hm, q, truT]⟩)
      simpa using this)
  have h2 : gLc (giSeq (gVar 1)) (tgName 3) (gNotT (gTru (gN oAny (gCons (gLc (giSeq (gVar 1)) (tgName 4) (gYes) (gAndV (g2 oNe (gVar 4) (gVar 3)) (gCall (f__law_most K Z) [] (gCons (gVarT 4) (gCons (gVarT 3) (gNil))))) [4]) (gNil))))) (gVarT 3) [3] [some (.t (.lst (rows.map rowT))), some (.t (.lst ((distI [] rows).map rowT))), none, none, none] [] = .ok (.lst ((minI (distI [] rows)).map rowT)) :=
    ev_lc (l := (distI [] rows).map rowT) (ev_seq (ev_var rfl rfl) rfl) (by rw [List.length_map]; exact le_size (by omega)) (by
      have := compO_filter (tg := tgName 3) (gt := gNotT (gTru (gN oAny (gCons (gLc (giSeq (gVar 1)) (tgName 4) (gYes) (gAndV (g2 oNe (gVar 4) (gVar 3)) (gCall (f__law_most K Z) [] (gCons (gVarT 4) (gCons (gVarT 3) (gNil))))) [4]) (gNil))))) (ge := gVarT 3) (ρ := wipeE [some (.t (.lst (rows.map rowT))), some (.t (.lst ((distI [] rows).map rowT))), none, none, none] [3]) (μ := []) (i := rowT) (p := fun row => !((distI [] rows).any fun one => decide (one ≠ row) && mostI one row)) (distI [] rows) [] (fun row hrow => ⟨_, rfl, ev_not (ev_tru (ev_N (ev_cons (hin row hrow) rfl) (oAny_map _ _)) rfl), rfl⟩)
      exact this)
  have hS := oSorted_rows (min_ok h).2
  refine runB_ev (ρ := [some (.t (.lst (rows.map rowT))), none, none, none, none]) (o := some (.rt (.lst ((sortC (minI (distI [] rows))).map rowT)))) rfl ?_ rfl
  show sSeq (sAsg (gLc (giO enOp (gCons (gVarT 0) (gNil))) (tgTup 2 (tgCons (tgName 2) (tgCons (tgName 3) (tgNil)))) gtD (gVarT 3) [2, 3]) (tgName 1)) _ _ _ = _
  rw [ap_sSeq, ap_sAsg, h1]
  show sRet (gN oSorted (gCons (gLc (giSeq (gVar 1)) (tgName 3) (gNotT (gTru (gN oAny (gCons (gLc (giSeq (gVar 1)) (tgName 4) (gYes) (gAndV (g2 oNe (gVar 4) (gVar 3)) (gCall (f__law_most K Z) [] (gCons (gVarT 4) (gCons (gVarT 3) (gNil))))) [4]) (gNil))))) (gVarT 3) [3]) (gNil))) [some (.t (.lst (rows.map rowT))), some (.t (.lst ((distI [] rows).map rowT))), none, none, none] [] = _
  rw [ap_sRet, ev_N (ev_cons h2 (h' := rfl) (gs := gNil) (l := [])) hS]; rfl
end
end K1
set_option Elab.async false
set_option linter.all false
set_option maxRecDepth 100000
set_option maxHeartbeats 400000
namespace K1
open PySem PySem.Spec PyProof.Rows L2 Zy
section
variable {P : Program} {w : World} {K : PySem.W.Frag} {mg : Str → Option Value} {base : Heap} {Z : Ads}
/-! ### the same -/
def isLs : T → Bool
  | .lst _ => true
  | _ => false
def isTu : T → Bool
  | .tup _ => true
  | _ => false
def isDk : T → Bool
  | .dk _ _ => true
  | _ => false
def isQ : T → Bool
  | .lst _ => true
  | .tup _ => true
  | .dk _ _ => true
  | .int _ => true
  | .bl _ => true
  | _ => false
theorem isi_list (X : Fx P w K mg base Z) {t : T} (k : Knd Z t) : isiV K t (.ty "list") = some (isLs t) := by
  cases k with
  | fn => exact isi1F X (b := false) (by decide +kernel)
  | ins ns l => exact isi1P X ns l X.k_Program_list
  | non => exact isi1 rfl (b := false) (by decide +kernel)
  | bl b => exact isi1 rfl (b := false) (by decide +kernel)
  | int b => exact isi1 rfl (b := false) (by decide +kernel)
  | str b => exact isi1 rfl (b := false) (by decide +kernel)
  | lst b => exact isi1 rfl (b := true) (by decide +kernel)
  | tup b => exact isi1 rfl (b := false) (by decide +kernel)
  | dk b c => exact isi1 rfl (b := false) (by decide +kernel)
theorem isi_tuple (X : Fx P w K mg base Z) {t : T} (k : Knd Z t) : isiV K t (.ty "tuple") = some (isTu t) := by
  cases k with
  | fn => exact isi1F X (b := false) (by decide +kernel)
  | ins ns l => exact isi1P X ns l X.k_Program_tuple
  | non => exact isi1 rfl (b := false) (by decide +kernel)
  | bl b => exact isi1 rfl (b := false) (by decide +kernel)
  | int b => exact isi1 rfl (b := false) (by decide +kernel)
  | str b => exact isi1 rfl (b := false) (by decide +kernel)
  | lst b => exact isi1 rfl (b := false) (by decide +kernel)
  | tup b => exact isi1 rfl (b := true) (by decide +kernel)
  | dk b c => exact isi1 rfl (b := false) (by decide +kernel)
theorem isi_dict (X : Fx P w K mg base Z) {t : T} (k : Knd Z t) : isiV K t (.ty "dict") = some (isDk t) := by
  cases k with
  | fn => exact isi1F X (b := false) (by decide +kernel)
  | ins ns l => exact isi1P X ns l X.k_Program_dict
  | non => exact isi1 rfl (b := false) (by decide +kernel)
  | bl b => exact isi1 rfl (b := false) (by decide +kernel)
  | int b => exact isi1 rfl (b := false) (by decide +kernel)
  | str b => exact isi1 rfl (b := false) (by decide +kernel)
  | lst b => exact isi1 rfl (b := false) (by decide +kernel)
  | tup b => exact isi1 rfl (b := false) (by decide +kernel)
  | dk b c => exact isi1 rfl (b := true) (by decide +kernel)
theorem isi_Q (X : Fx P w K mg base Z) {t : T} (k : Knd Z t) : isiV K t (.tup [.ty "int", .ty "list", .ty "tuple", .ty "dict"]) = some (isQ t) := by
  cases k with
  | fn => exact isiNF X (ns := ["int", "list", "tuple", "dict"]) (b := false) (by decide +kernel)
  | ins ns l => exact isiNP X ns l (ts := ["int", "list", "tuple", "dict"]) (by simp [X.k_Program_list, X.k_Program_tuple, X.k_Program_int, X.k_Program_dict])
  | non => exact isiN (ns := ["int", "list", "tuple", "dict"]) rfl (b := false) (by decide +kernel)
  | bl b => exact isiN (ns := ["int", "list", "tuple", "dict"]) rfl (b := true) (by decide +kernel)
  | int b => exact isiN (ns := ["int", "list", "tuple", "dict"]) rfl (b := true) (by decide +kernel)
  | str b => exact isiN (ns := ["int", "list", "tuple", "dict"]) rfl (b := false) (by decide +kernel)
  | lst b => exact isiN (ns := ["int", "list", "tuple", "dict"]) rfl (b := true) (by decide +kernel)
  | tup b => exact isiN (ns := ["int", "list", "tuple", "dict"]) rfl (b := true) (by decide +kernel)
  | dk b c => exact isiN (ns := ["int", "list", "tuple", "dict"]) rfl (b := true) (by decide +kernel)
theorem oEq_bl (a b : Bool) : oEq (.bl a) (.bl b) = some (.bl (decide (a = b))) := by cases a <;> cases b <;> simp [oEq, dat, toP, SeqAt.shaped, PyData.canLay0, PyData.depth, PyData.eqv]
theorem oNe_bl (a b : Bool) : oNe (.bl a) (.bl b) = some (.bl (!decide (a = b))) := by cases a <;> cases b <;> simp [oNe, dat, toP, SeqAt.shaped, PyData.canLay0, PyData.depth, PyData.eqv]
theorem oEq_non : oEq .non .non = some (.bl true) := by simp [oEq, dat, toP, SeqAt.shaped, PyData.canLay0, PyData.depth, PyData.eqv]
theorem oEq_str {a : Str} (h : PyData.strOk a = true) : oEq (.str a) (.str a) = some (.bl true) := by
  simp [oEq, dat, toP, SeqAt.shaped, PyData.canLay0, PyData.depth, PyData.eqv, h]
theorem zpO_self : ∀ l : List T, zpO l l = l.map fun x => .tup [x, x]
  | [] => rfl
  | x :: l => by show T.tup [x, x] :: zpO l l = _; rw [zpO_self l]; rfl
theorem eqX_int {C : Addr} {f : List T → Pr T} (a b : Int) : oEqX K C f (.int a) (.int b) = some (.bl (decide (a = b))) := oEq_int a b
theorem eqX_bl {C : Addr} {f : List T → Pr T} (a b : Bool) : oEqX K C f (.bl a) (.bl b) = some (.bl (decide (a = b))) := oEq_bl a b
theorem eqX_non {C : Addr} {f : List T → Pr T} : oEqX K C f .non .non = some (.bl true) := oEq_non
theorem eqX_str {C : Addr} {f : List T → Pr T} {a : Str} (h : PyData.strOk a = true) : oEqX K C f (.str a) (.str a) = some (.bl true) := oEq_str h
theorem eqX_fn (X : Fx P w K mg base Z) {C : Addr} {f : List T → Pr T} : oEqX K C f (.ob Z.o__law_dot) (.ob Z.o__law_dot) = some (.bl true) := by
  simp only [oEqX]; rw [if_pos ⟨trivial, X.t__law_dot⟩]
theorem same_core (X : Fx P w K mg base Z) {n : Nat} {t : T} (k : Knd Z t) {r : Pr T} (h : g__law_same K Z (f__law_same K Z n) [some (.t t), some (.t t), none, none] [] = some (.rt (.bl true))) : f__law_same K Z (n + 1) [t, t] = .ok (.bl true) :=
  runB_ev (ρ := [some (.t t), some (.t t), none, none]) rfl h rfl
theorem same_seq (X : Fx P w K mg base Z) {n : Nat} {t : T} {l : List T} (ht : t = .lst l ∨ t = .tup l) (hz : l.length ≤ 1000) (h : ∀ x ∈ l, f__law_same K Z n [x, x] = .ok (.bl true)) : f__law_same K Z (n + 1) [t, t] = .ok (.bl true) := by
  have k : Knd Z t := by rcases ht with rfl | rfl <;> constructor
  have hLT := isi_LT X k
  have hL : isL t = true := by rcases ht with rfl | rfl <;> rfl
  rw [hL] at hLT
  have hO : oLen [t] = some (.int l.length) := by rcases ht with rfl | rfl <;> rfl
  have hzp : zpOp [t, t] = some (l.map fun x => .tup [x, x]) := by
    show (itmT t).bind (fun l => (itmT t).map fun m => zpO l m) = _
    rw [itm_of ht]
    show some (zpO l l) = _
    rw [zpO_self]
  have hLc : gLc (giO zpOp (gCons (gVarT 0) (gCons (gVarT 1) (gNil)))) (tgTup 2 (tgCons (tgName 2) (tgCons (tgName 3) (tgNil)))) (gYes) (gCall (f__law_same K Z n) [] (gCons (gVarT 2) (gCons (gVarT 3) (gNil)))) [2, 3] [some (.t t), some (.t t), none, none] [] = .ok (.lst (l.map fun x => .bl true)) :=
    ev_lc (l := l.map fun x => .tup [x, x]) (ev_O (l := [t, t]) rfl hzp) (by rw [List.length_map]; exact le_size (by omega)) (by
      have := compO_mapG (tg := tgTup 2 (tgCons (tgName 2) (tgCons (tgName 3) (tgNil)))) (ge := gCall (f__law_same K Z n) [] (gCons (gVarT 2) (gCons (gVarT 3) (gNil)))) (ρ := wipeE [some (.t t), some (.t t), none, none] [2, 3]) (μ := []) (i := fun x : T => .tup [x, x]) (o := fun _ => .bl true) l [] (fun x hx => ⟨_, rfl, ev_call (l := [x, x]) rfl (h x hx)⟩)
      exact this)
  have hA := oAny_map (fun _ : T => true) l
  have hA2 := oAll_map (fun _ : T => true) l
  have ha : (l.all fun _ => true) = true := by simp
  rw [ha] at hA2
  refine runB_ev (ρ := [some (.t t), some (.t t), none, none]) (o := some (.rt (.bl true))) rfl ?_ rfl
  simp [g__law_same, outP, ap_gVar, ap_gVarT, ap_g1, ap_g2, ap_gN, ap_gNil, ap_gCons, ap_gLst, ap_gTup, ap_gTru, ap_gBl, ap_gAndT, ap_gOrT, ap_gNotT, ap_gIf, ap_gAndV, ap_gOrV, ap_gNotV, ap_gCall, ap_goNone, ap_goSome, ap_gSl, ap_giSeq, ap_tgName, ap_tgNil, ap_tgCons, ap_tgTup, ap_gYes, ap_sNext, ap_sSeq, ap_sRet, ap_sRetN, ap_sIf, ap_sAsg, ap_sBrk, ap_sCnt, ap_sNever, ap_sDrop, ap_sRaise, ap_sPar, pb_ok, pb_er, po_ok, pn_ok, pl_ok, pl_er, blT, intT, szL, tr1, tr2, oEq_int, oI, vw_t, oIsi_of hLT, oIsi_of (isi_list X k), oIsi_of (isi_tuple X k), oNe_bl, hO, eqX_int, hLc, hA2, sizeLine_eq, truT]
theorem same_leaf (X : Fx P w K mg base Z) {n : Nat} {t : T} (k : Knd Z t) (h1 : isL t = false) (h2 : isDk t = false) (h3 : oEqX K Z.o_Program (f_Program_eq K Z) t t = some (.bl true)) : f__law_same K Z (n + 1) [t, t] = .ok (.bl true) := by
  have hLT := isi_LT X k
  have hd := isi_dict X k
  rw [h1] at hLT
  rw [h2] at hd
  have h4 : isQ t = isIB t := by cases t <;> first | rfl | (cases h1; done) | (cases h2; done)
  refine runB_ev (ρ := [some (.t t), some (.t t), none, none]) (o := some (.rt (.bl true))) rfl ?_ rfl
  cases hq : isIB t with
  | true => simp [g__law_same, outP, ap_gVar, ap_gVarT, ap_g1, ap_g2, ap_gN, ap_gNil, ap_gCons, ap_gLst, ap_gTup, ap_gTru, ap_gBl, ap_gAndT, ap_gOrT, ap_gNotT, ap_gIf, ap_gAndV, ap_gOrV, ap_gNotV, ap_gCall, ap_goNone, ap_goSome, ap_gSl, ap_giSeq, ap_tgName, ap_tgNil, ap_tgCons, ap_tgTup, ap_gYes, ap_sNext, ap_sSeq, ap_sRet, ap_sRetN, ap_sIf, ap_sAsg, ap_sBrk, ap_sCnt, ap_sNever, ap_sDrop, ap_sRaise, ap_sPar, pb_ok, pb_er, po_ok, pn_ok, pl_ok, pl_er, blT, intT, szL, tr1, tr2, oEq_int, oI, vw_t, oIsi_of hLT, oIsi_of hd, oIsi_of (isi_int X k), oIsi_of (isi_bool X k), eqX_bl, h3, sizeLine_eq, truT, hq]
  | false =>
    have hQ := isi_Q X k
    rw [h4, hq] at hQ
    simp [g__law_same, outP, ap_gVar, ap_gVarT, ap_g1, ap_g2, ap_gN, ap_gNil, ap_gCons, ap_gLst, ap_gTup, ap_gTru, ap_gBl, ap_gAndT, ap_gOrT, ap_gNotT, ap_gIf, ap_gAndV, ap_gOrV, ap_gNotV, ap_gCall, ap_goNone, ap_goSome, ap_gSl, ap_giSeq, ap_tgName, ap_tgNil, ap_tgCons, ap_tgTup, ap_gYes, ap_sNext, ap_sSeq, ap_sRet, ap_sRetN, ap_sIf, ap_sAsg, ap_sBrk, ap_sCnt, ap_sNever, ap_sDrop, ap_sRaise, ap_sPar, pb_ok, pb_er, po_ok, pn_ok, pl_ok, pl_er, blT, intT, szL, tr1, tr2, oEq_int, oI, vw_t, oIsi_of hLT, oIsi_of hd, oIsi_of (isi_int X k), oIsi_of hQ, h3, sizeLine_eq, truT, hq]
theorem same_dk (X : Fx P w K mg base Z) {n : Nat} {ks : List Key} {l : List T} (hz : l.length ≤ 1000) (h : f__law_same K Z n [.lst (itemsO ks l), .lst (itemsO ks l)] = .ok (.bl true)) : f__law_same K Z (n + 1) [.dk ks l, .dk ks l] = .ok (.bl true) := by
  have k : Knd Z (.dk ks l) := .dk ks l
  have hi : oItemsZ (.dk ks l) = some (.lst (itemsO ks l)) := by
    simp only [oItemsZ]; rw [if_pos (le_size (by omega))]
  refine runB_ev (ρ := [some (.t (.dk ks l)), some (.t (.dk ks l)), none, none]) (o := some (.rt (.bl true))) rfl ?_ rfl
  simp [g__law_same, outP, ap_gVar, ap_gVarT, ap_g1, ap_g2, ap_gN, ap_gNil, ap_gCons, ap_gLst, ap_gTup, ap_gTru, ap_gBl, ap_gAndT, ap_gOrT, ap_gNotT, ap_gIf, ap_gAndV, ap_gOrV, ap_gNotV, ap_gCall, ap_goNone, ap_goSome, ap_gSl, ap_giSeq, ap_tgName, ap_tgNil, ap_tgCons, ap_tgTup, ap_gYes, ap_sNext, ap_sSeq, ap_sRet, ap_sRetN, ap_sIf, ap_sAsg, ap_sBrk, ap_sCnt, ap_sNever, ap_sDrop, ap_sRaise, ap_sPar, pb_ok, pb_er, po_ok, pn_ok, pl_ok, pl_er, blT, intT, szL, tr1, tr2, oEq_int, oI, vw_t, oIsi_of (isi_LT X k), oIsi_of (isi_dict X k), hi, h, sizeLine_eq, truT, isL, isDk]
end
end K1
set_option Elab.async false
set_option linter.all false
set_option maxRecDepth 100000
set_option maxHeartbeats 400000
namespace K1
open PySem PySem.Spec PyProof.Rows L2 Zy
section
variable {P : Program} {w : World} {K : PySem.W.Frag} {mg : Str → Option Value} {base : Heap} {Z : Ads}
theorem isi_str (x : Str) : isiV K (.str x) (.ty "str") = some true := isi1 rfl (b := true) (by decide +kernel)
theorem oIn_flat : oIn (.str "flat") (.tup [.str "flat", .str "high"]) = some (.bl true) := by
  simp [oIn, inB, inF, flT, flTs, seqT, inV, eqV]
theorem sorts_flat (X : Fx P w K mg base Z) : f_are_sorts K Z [.lst [.str "flat"]] = .ok (.bl true) := by
  have hl := is_list_ok X (.lst [.str "flat"])
  have h1 := oNotIn_123 1
  simp at h1
  have hLc : gLc (giSeq (gVar 0)) (tgName 1) (gYes) (gAndV (gN (oIsiX K) (gCons (gVar 1) (gCons (gC (.ty "str")) (gNil)))) (g2 oIn (gVar 1) (gTup (gCons (gC (.str "flat")) (gCons (gC (.str "high")) (gNil)))))) [1] [some (.t (.lst [.str "flat"])), none] [] = .ok (.lst ([T.str "flat"].map fun _ => .bl true)) :=
    ev_lc (l := [.str "flat"]) (ev_seq (ev_var rfl rfl) rfl) (le_size (by decide)) (by
      have := compO_mapG (tg := tgName 1) (ge := gAndV (gN (oIsiX K) (gCons (gVar 1) (gCons (gC (.ty "str")) (gNil)))) (g2 oIn (gVar 1) (gTup (gCons (gC (.str "flat")) (gCons (gC (.str "high")) (gNil)))))) (ρ := wipeE [some (.t (.lst [.str "flat"])), none] [1]) (μ := []) (i := fun x : T => x) (o := fun _ => T.bl true) [T.str "flat"] [] (fun x hx => by
        rw [List.mem_singleton.mp hx]
        refine ⟨_, rfl, ?_⟩
        simp [outP, ap_gVar, ap_gVarT, ap_g1, ap_g2, ap_gN, ap_gNil, ap_gCons, ap_gLst, ap_gTup, ap_gTru, ap_gBl, ap_gAndT, ap_gOrT, ap_gNotT, ap_gIf, ap_gAndV, ap_gOrV, ap_gNotV, ap_gCall, ap_goNone, ap_goSome, ap_gSl, ap_giSeq, ap_tgName, ap_tgNil, ap_tgCons, ap_tgTup, ap_gYes, ap_sNext, ap_sSeq, ap_sRet, ap_sRetN, ap_sIf, ap_sAsg, ap_sBrk, ap_sCnt, ap_sNever, ap_sDrop, ap_sRaise, ap_sPar, pb_ok, pb_er, po_ok, pn_ok, pl_ok, pl_er, blT, intT, szL, tr1, tr2, oEq_int, oI, vw_t, wipeE, oIsi_of (isi_str "flat"), oIn_flat, truT, sizeLine_eq])
      exact this)
  have hA := oAll_map (fun _ : T => true) [T.str "flat"]
  have hO : oLen [.lst [.str "flat"]] = some (.int 1) := rfl
  refine runB_ev (ρ := [some (.t (.lst [.str "flat"])), none]) (o := some (.rt (.bl true))) rfl ?_ rfl
  simp [isL] at hl
  simp at hA hLc
  simp [g_are_sorts, outP, ap_gVar, ap_gVarT, ap_g1, ap_g2, ap_gN, ap_gNil, ap_gCons, ap_gLst, ap_gTup, ap_gTru, ap_gBl, ap_gAndT, ap_gOrT, ap_gNotT, ap_gIf, ap_gAndV, ap_gOrV, ap_gNotV, ap_gCall, ap_goNone, ap_goSome, ap_gSl, ap_giSeq, ap_tgName, ap_tgNil, ap_tgCons, ap_tgTup, ap_gYes, ap_sNext, ap_sSeq, ap_sRet, ap_sRetN, ap_sIf, ap_sAsg, ap_sBrk, ap_sCnt, ap_sNever, ap_sDrop, ap_sRaise, ap_sPar, pb_ok, pb_er, po_ok, pn_ok, pl_ok, pl_er, blT, intT, szL, tr1, tr2, oEq_int, oI, vw_t, hl, hO, h1, sizeLine_eq, hLc, hA]
theorem rules_flat (X : Fx P w K mg base Z) : f_check_rules K Z [.lst [.str "flat"], .lst []] = .ok .non := by
  have hs := sorts_flat X
  have hl := is_list_ok X (.lst [])
  simp [isL] at hl
  refine runB_ev (ρ := [some (.t (.lst [.str "flat"])), some (.t (.lst [])), none, none]) (o := some (.nx [some (.t (.lst [.str "flat"])), some (.t (.lst [])), none, none])) rfl ?_ rfl
  have he : enOp [.lst []] = some [] := rfl
  simp [g_check_rules, outP, ap_gVar, ap_gVarT, ap_g1, ap_g2, ap_gN, ap_gNil, ap_gCons, ap_gLst, ap_gTup, ap_gTru, ap_gBl, ap_gAndT, ap_gOrT, ap_gNotT, ap_gIf, ap_gAndV, ap_gOrV, ap_gNotV, ap_gCall, ap_goNone, ap_goSome, ap_gSl, ap_giSeq, ap_tgName, ap_tgNil, ap_tgCons, ap_tgTup, ap_gYes, ap_sNext, ap_sSeq, ap_sRet, ap_sRetN, ap_sIf, ap_sAsg, ap_sBrk, ap_sCnt, ap_sNever, ap_sDrop, ap_sRaise, ap_sPar, pb_ok, pb_er, po_ok, pn_ok, pl_ok, pl_er, blT, intT, szL, tr1, tr2, oEq_int, oI, vw_t, hs, hl, ap_sFor, ap_giO, he, forO]
theorem tuples_nil (X : Fx P w K mg base Z) : f_as_tuples K Z 8 [.lst []] = .ok (.tup []) := by
  have hl := is_list_ok X (.lst [])
  simp [isL] at hl
  show runB 2 (g_as_tuples K Z (f_as_tuples K Z 7)) [.lst []] = _
  have hLc : gLc (giSeq (gVar 0)) (tgName 1) (gYes) (gCall (f_as_tuples K Z 7) [] (gCons (gVarT 1) (gNil))) [1] [some (.t (.lst [])), none] [] = .ok (.lst []) :=
    ev_lc (l := []) (ev_seq (ev_var rfl rfl) rfl) (le_size (by decide)) rfl
  have ht := oTuple_l (l := []) (le_size (by decide))
  refine runB_ev (ρ := [some (.t (.lst [])), none]) (o := some (.rt (.tup []))) rfl ?_ rfl
  simp [g_as_tuples, outP, ap_gVar, ap_gVarT, ap_g1, ap_g2, ap_gN, ap_gNil, ap_gCons, ap_gLst, ap_gTup, ap_gTru, ap_gBl, ap_gAndT, ap_gOrT, ap_gNotT, ap_gIf, ap_gAndV, ap_gOrV, ap_gNotV, ap_gCall, ap_goNone, ap_goSome, ap_gSl, ap_giSeq, ap_tgName, ap_tgNil, ap_tgCons, ap_tgTup, ap_gYes, ap_sNext, ap_sSeq, ap_sRet, ap_sRetN, ap_sIf, ap_sAsg, ap_sBrk, ap_sCnt, ap_sNever, ap_sDrop, ap_sRaise, ap_sPar, pb_ok, pb_er, po_ok, pn_ok, pl_ok, pl_er, blT, intT, szL, tr1, tr2, oEq_int, oI, vw_t, hl, hLc, ht]
def progM (Z : Ads) : MO := .ins Z.o_Program ["sorts", "rules", "names", "kept"] [.t (.tup [.str "flat"]), .t (.tup []), .t (.tup []), .t (.dk [] [])]
def progT (Z : Ads) : T := .ins Z.o_Program ["sorts", "rules", "names", "kept"] [.tup [.str "flat"], .tup [], .tup [], .dk [] []]
open Classical in
theorem fld_ev {f : Str} {go ge : Sx} {ρ : En} {μ μ1 μ2 : Mu} {i : Nat} {C : Addr} {ns : List Str} {d : D} {ds : List D} (h1 : ge ρ μ = .ok d μ1) (h2 : go ρ μ1 = .ok (.r i) μ2) (h3 : μ2[i]? = some (.ins C ns ds)) (hc : Cls K C) (hn : NoAttr K C f) (hz : ns.length < 1000) : msFld K f go ge ρ μ = some (.nx ρ (μ2.set i (.ins C (putN f ns) (putV f d ns ds)))) := by
  unfold msFld
  rw [h1]
  show liftM (go ρ μ1) ρ _ = _
  rw [h2]
  show (match μ2[i]? with
    | some (.ins C ns ds) => if Cls K C ∧ NoAttr K C f ∧ ns.length < 1000 then some (Mo.nx ρ (μ2.set i (.ins C (putN f ns) (putV f d ns ds)))) else none
    | _ => none) = _
  rw [h3]
  exact if_pos ⟨hc, hn, hz⟩
open Classical in
theorem fldT {C : Addr} {f : Str} {ns : List Str} {l : List T} {x : T} (hc : Cls K C) (hn : NoAttr K C f) (h : (ns.zip l).lookup f = some x) : oFld K f (.ins C ns l) = some x := by
  simp only [oFld]; rw [if_pos ⟨hc, hn⟩]; exact h
theorem init_ok (X : Fx P w K mg base Z) : f_Program_init K Z [.r 0, .t (.lst [.str "flat"]), .t (.lst [])] [.ins Z.o_Program [] []] = .ok (.t .non) [progM Z] := by
  have hc := X.f_Program.cl
  have hr := rules_flat X
  have ha := tuples_nil X
  have ht := oTuple_l (l := [.str "flat"]) (le_size (by decide))
  have ht0 := oTuple_l (l := []) (le_size (by decide))
  let ρ : Option D → En := fun o => [some (.r 0), some (.t (.lst [.str "flat"])), some (.t (.lst [])), o, none, none, none, none, none, none]
  let m1' : MO := .ins Z.o_Program ["sorts"] [.t (.tup [.str "flat"])]
  let m2' : MO := .ins Z.o_Program ["sorts", "rules"] [.t (.tup [.str "flat"]), .t (.tup [])]
  let m3' : MO := .ins Z.o_Program ["sorts", "rules", "names"] [.t (.tup [.str "flat"]), .t (.tup []), .t (.tup [])]
  have s0 : msDrop (mCallP (f_check_rules K Z) [] 2 (mCons (mVar 1) (mCons (mVar 2) (mNil)))) (ρ none) [.ins Z.o_Program [] []] = some (.nx (ρ none) [.ins Z.o_Program [] []]) := by
    simp [ρ, outM, ap_mP, ap_mC, ap_mVar, ap_m1, ap_m2, ap_mN, ap_mIx, ap_mNil, ap_mCons, ap_mLst, ap_mLstR, ap_mTup, ap_mTru, ap_mBl, ap_mAndT, ap_mOrT, ap_mNotT, ap_mIf, ap_mAndV, ap_mOrV, ap_mNotV, ap_moNone, ap_moSome, ap_mSl, ap_mgName, ap_mgNil, ap_mgCons, ap_mgTup, ap_mgSub, ap_mYes, ap_msNext, ap_msSeq, ap_msRet, ap_msRetF, ap_msRetN, ap_msIf, ap_msAsg, ap_msBrk, ap_msCnt, ap_msDrop, ap_msFz, ap_mCallP, ap_mErrF, ap_mFz, ap_mD1, ap_msBad, ap_msPar, mCall_eq, sb_ok, sb_er, sl_ok, sl_er, so_ok, sn_ok, vw_t, vws_nil, vws_cons, unT_nil, unT_cons, sq1, sq2, ln1, ln2, tr1, tr2, oEq_int, oI, blD, Zy.intD, frz, szB, hr]
  have s1 : msFld K "sorts" (mVar 0) (mN oTuple (mCons (mVar 1) (mNil))) (ρ none) [.ins Z.o_Program [] []] = some (.nx (ρ none) [m1']) :=
    fld_ev (i := 0) (ns := []) (ds := []) (μ1 := [.ins Z.o_Program [] []]) (μ2 := [.ins Z.o_Program [] []]) (d := .t (.tup [.str "flat"])) (by simp [ρ, outM, ap_mP, ap_mC, ap_mVar, ap_m1, ap_m2, ap_mN, ap_mIx, ap_mNil, ap_mCons, ap_mLst, ap_mLstR, ap_mTup, ap_mTru, ap_mBl, ap_mAndT, ap_mOrT, ap_mNotT, ap_mIf, ap_mAndV, ap_mOrV, ap_mNotV, ap_moNone, ap_moSome, ap_mSl, ap_mgName, ap_mgNil, ap_mgCons, ap_mgTup, ap_mgSub, ap_mYes, ap_msNext, ap_msSeq, ap_msRet, ap_msRetF, ap_msRetN, ap_msIf, ap_msAsg, ap_msBrk, ap_msCnt, ap_msDrop, ap_msFz, ap_mCallP, ap_mErrF, ap_mFz, ap_mD1, ap_msBad, ap_msPar, mCall_eq, sb_ok, sb_er, sl_ok, sl_er, so_ok, sn_ok, vw_t, vws_nil, vws_cons, unT_nil, unT_cons, sq1, sq2, ln1, ln2, tr1, tr2, oEq_int, oI, blD, Zy.intD, frz, szB, ht]) rfl rfl hc X.n_Program_sorts (by decide)
  have s2 : msFld K "rules" (mVar 0) (mCallP (f_as_tuples K Z 8) [] 1 (mCons (mVar 2) (mNil))) (ρ none) [m1'] = some (.nx (ρ none) [m2']) :=
    fld_ev (i := 0) (ns := ["sorts"]) (ds := [.t (.tup [.str "flat"])]) (μ1 := [m1']) (μ2 := [m1']) (d := .t (.tup [])) (by simp [ρ, outM, ap_mP, ap_mC, ap_mVar, ap_m1, ap_m2, ap_mN, ap_mIx, ap_mNil, ap_mCons, ap_mLst, ap_mLstR, ap_mTup, ap_mTru, ap_mBl, ap_mAndT, ap_mOrT, ap_mNotT, ap_mIf, ap_mAndV, ap_mOrV, ap_mNotV, ap_moNone, ap_moSome, ap_mSl, ap_mgName, ap_mgNil, ap_mgCons, ap_mgTup, ap_mgSub, ap_mYes, ap_msNext, ap_msSeq, ap_msRet, ap_msRetF, ap_msRetN, ap_msIf, ap_msAsg, ap_msBrk, ap_msCnt, ap_msDrop, ap_msFz, ap_mCallP, ap_mErrF, ap_mFz, ap_mD1, ap_msBad, ap_msPar, mCall_eq, sb_ok, sb_er, sl_ok, sl_er, so_ok, sn_ok, vw_t, vws_nil, vws_cons, unT_nil, unT_cons, sq1, sq2, ln1, ln2, tr1, tr2, oEq_int, oI, blD, Zy.intD, frz, szB, ha]) rfl rfl hc X.n_Program_rules (by decide)
  have hf : oFld K "rules" (.ins Z.o_Program ["sorts", "rules"] [.tup [.str "flat"], .tup []]) = some (.tup []) := fldT hc X.n_Program_rules rfl
  have hv : vw [m2'] (.r 0) = some (.ins Z.o_Program ["sorts", "rules"] [.tup [.str "flat"], .tup []]) := rfl
  have hg : ∀ o, m1 (oFld K "rules") (mVar 0) (ρ o) [m2'] = .ok (.t (.tup [])) [m2'] := fun o => by
    simp [ρ, outM, ap_mP, ap_mC, ap_mVar, ap_m1, ap_m2, ap_mN, ap_mIx, ap_mNil, ap_mCons, ap_mLst, ap_mLstR, ap_mTup, ap_mTru, ap_mBl, ap_mAndT, ap_mOrT, ap_mNotT, ap_mIf, ap_mAndV, ap_mOrV, ap_mNotV, ap_moNone, ap_moSome, ap_mSl, ap_mgName, ap_mgNil, ap_mgCons, ap_mgTup, ap_mgSub, ap_mYes, ap_msNext, ap_msSeq, ap_msRet, ap_msRetF, ap_msRetN, ap_msIf, ap_msAsg, ap_msBrk, ap_msCnt, ap_msDrop, ap_msFz, ap_mCallP, ap_mErrF, ap_mFz, ap_mD1, ap_msBad, ap_msPar, mCall_eq, sb_ok, sb_er, sl_ok, sl_er, so_ok, sn_ok, vw_t, vws_nil, vws_cons, unT_nil, unT_cons, sq1, sq2, ln1, ln2, tr1, tr2, oEq_int, oI, blD, Zy.intD, frz, szB, ap_m1, hv, hf]
  have s3 : msAsg (mLc (miSeq (m1 (oFld K "rules") (mVar 0))) (mgName 8) (mYes) (mIx (mVar 8) (mC (.int 0))) [8]) (mgName 3) (ρ none) [m2'] = some (.nx (ρ (some (.t (.lst [])))) [m2']) := by
    have h := mLc_ev (gi := miSeq (m1 (oFld K "rules") (mVar 0))) (tg := mgName 8) (gt := mYes) (ge := mIx (mVar 8) (mC (.int 0))) (vs := [8]) (ρ := ρ none) (μ := [m2']) (μ1 := [m2']) (μ2 := [m2']) (l := []) (c := none) (r := []) (miSeq_ev (t := .tup []) (l := []) (hg none) rfl) (le_size (by decide)) (by unfold compM; exact if_pos trivial)
    rw [ap_msAsg, h]; rfl
  have s4 : msFor (miSeq (m1 (oFld K "rules") (mVar 0))) (mgTup 4 (mgCons (mgName 4) (mgCons (mgName 5) (mgCons (mgName 6) (mgCons (mgName 7) (mgNil)))))) ((msBad)) (ρ (some (.t (.lst [])))) [m2'] = some (.nx (ρ (some (.t (.lst [])))) [m2']) := by
    rw [ap_msFor, miSeq_ev (t := .tup []) (l := []) (hg _) rfl, sl_ok]
    show forM' none _ msBad [] _ _ = _
    unfold forM'; exact if_pos trivial
  have s5 : msFld K "names" (mVar 0) (mN oTuple (mCons (m1 oSset (mVar 3)) (mNil))) (ρ (some (.t (.lst [])))) [m2'] = some (.nx (ρ (some (.t (.lst [])))) [m3']) :=
    fld_ev (i := 0) (ns := ["sorts", "rules"]) (ds := [.t (.tup [.str "flat"]), .t (.tup [])]) (μ1 := [m2']) (μ2 := [m2']) (d := .t (.tup [])) (by simp [ρ, outM, ap_mP, ap_mC, ap_mVar, ap_m1, ap_m2, ap_mN, ap_mIx, ap_mNil, ap_mCons, ap_mLst, ap_mLstR, ap_mTup, ap_mTru, ap_mBl, ap_mAndT, ap_mOrT, ap_mNotT, ap_mIf, ap_mAndV, ap_mOrV, ap_mNotV, ap_moNone, ap_moSome, ap_mSl, ap_mgName, ap_mgNil, ap_mgCons, ap_mgTup, ap_mgSub, ap_mYes, ap_msNext, ap_msSeq, ap_msRet, ap_msRetF, ap_msRetN, ap_msIf, ap_msAsg, ap_msBrk, ap_msCnt, ap_msDrop, ap_msFz, ap_mCallP, ap_mErrF, ap_mFz, ap_mD1, ap_msBad, ap_msPar, mCall_eq, sb_ok, sb_er, sl_ok, sl_er, so_ok, sn_ok, vw_t, vws_nil, vws_cons, unT_nil, unT_cons, sq1, sq2, ln1, ln2, tr1, tr2, oEq_int, oI, blD, Zy.intD, frz, szB, ap_m1, oSset, ht0]) rfl rfl hc X.n_Program_names (by decide)
  have s6 : msFld K "kept" (mVar 0) (mC (.dk [] [])) (ρ (some (.t (.lst [])))) [m3'] = some (.nx (ρ (some (.t (.lst [])))) [progM Z]) :=
    fld_ev (i := 0) (ns := ["sorts", "rules", "names"]) (ds := [.t (.tup [.str "flat"]), .t (.tup []), .t (.tup [])]) (μ1 := [m3']) (μ2 := [m3']) (d := .t (.dk [] [])) rfl rfl rfl hc X.n_Program_kept (by decide)
  refine runM_ev (ρ := ρ none) (o := some (.nx (ρ (some (.t (.lst [])))) [progM Z])) rfl ?_ rfl
  unfold g_Program_init
  rw [sq_nx _ _ _ _ _ _ s0, sq_nx _ _ _ _ _ _ s1, sq_nx _ _ _ _ _ _ s2, sq_nx _ _ _ _ _ _ s3, sq_nx _ _ _ _ _ _ s4, sq_nx _ _ _ _ _ _ s5, s6]
end
end K1
set_option Elab.async false
set_option linter.all false
set_option maxRecDepth 100000
set_option maxHeartbeats 400000
namespace K1
open PySem PySem.Spec PyProof.Rows L2 Zy
section
variable {P : Program} {w : World} {K : PySem.W.Frag} {mg : Str → Option Value} {base : Heap} {Z : Ads}
theorem isi_prog (X : Fx P w K mg base Z) (ns : List Str) (l : List T) : isiV K (.ins Z.o_Program ns l) (.ob Z.o_Program) = some true := by
  unfold isiV
  rw [tyV_ins X]
  show PySem.W.kitOne K (.ref Z.o_Program) (.ref Z.o_Program) = some true
  unfold PySem.W.kitOne
  rw [if_pos (by simp)]
theorem oEq_prog : oEq (.tup [.tup [.str "flat"], .tup []]) (.tup [.tup [.str "flat"], .tup []]) = some (.bl true) := by
  have h : PyData.strOk "flat" = true := by decide +kernel
  simp [oEq, dat, toP, toP.toPs, SeqAt.shaped, PyData.canLay0, PyData.canLayAll0, PyData.depth, PyData.depthAll, PyData.eqv, PyData.eqvAll, h]
theorem prog_eq (X : Fx P w K mg base Z) : f_Program_eq K Z [progT Z, progT Z] = .ok (.bl true) := by
  have hc := X.f_Program.cl
  have h1 : oFld K "sorts" (progT Z) = some (.tup [.str "flat"]) := fldT hc X.n_Program_sorts rfl
  have h2 : oFld K "rules" (progT Z) = some (.tup []) := fldT hc X.n_Program_rules rfl
  have h3 : isiV K (progT Z) (.ob Z.o_Program) = some true := isi_prog X _ _
  refine runB_ev (ρ := [some (.t (progT Z)), some (.t (progT Z))]) (o := some (.rt (.bl true))) rfl ?_ rfl
  simp [g_Program_eq, outP, ap_gVar, ap_gVarT, ap_g1, ap_g2, ap_gN, ap_gNil, ap_gCons, ap_gLst, ap_gTup, ap_gTru, ap_gBl, ap_gAndT, ap_gOrT, ap_gNotT, ap_gIf, ap_gAndV, ap_gOrV, ap_gNotV, ap_gCall, ap_goNone, ap_goSome, ap_gSl, ap_giSeq, ap_tgName, ap_tgNil, ap_tgCons, ap_tgTup, ap_gYes, ap_sNext, ap_sSeq, ap_sRet, ap_sRetN, ap_sIf, ap_sAsg, ap_sBrk, ap_sCnt, ap_sNever, ap_sDrop, ap_sRaise, ap_sPar, pb_ok, pb_er, po_ok, pn_ok, pl_ok, pl_er, blT, intT, szL, tr1, tr2, oEq_int, oI, vw_t, oIsi_of h3, h1, h2, oEq_prog, sizeLine_eq, truT, ap_g1]
open Classical in
theorem eqX_prog (X : Fx P w K mg base Z) : oEqX K Z.o_Program (f_Program_eq K Z) (progT Z) (progT Z) = some (.bl true) := by
  have h := prog_eq X
  unfold progT at h ⊢
  simp only [oEqX]
  exact if_pos ⟨trivial, trivial, h⟩
theorem same_prog (X : Fx P w K mg base Z) (n : Nat) : f__law_same K Z (n + 1) [progT Z, progT Z] = .ok (.bl true) :=
  same_leaf X (t := progT Z) (.ins _ _) rfl rfl (eqX_prog X)
theorem same_fn (X : Fx P w K mg base Z) (n : Nat) : f__law_same K Z (n + 1) [.ob Z.o__law_dot, .ob Z.o__law_dot] = .ok (.bl true) :=
  same_leaf X .fn rfl rfl (eqX_fn X)
/-- things that are the same as themselves, n levels deep -/
def samB : Nat → T → Bool
  | 0, _ => false
  | n + 1, t => match t with
    | .non => true
    | .bl _ => true
    | .int _ => true
    | .str a => PyData.strOk a
    | .lst l => decide (l.length ≤ 1000) && l.all (samB n)
    | .tup l => decide (l.length ≤ 1000) && l.all (samB n)
    | .dk ks l => decide (l.length ≤ 1000) && samB n (.lst (itemsO ks l))
    | _ => false
theorem same_of (X : Fx P w K mg base Z) : ∀ {n : Nat} {t : T}, samB n t = true → f__law_same K Z n [t, t] = .ok (.bl true)
  | 0, _, h => by cases h
  | n + 1, t, h => by
    cases t with
    | non => exact same_leaf X .non rfl rfl eqX_non
    | bl b => exact same_leaf X (.bl b) rfl rfl (by rw [eqX_bl]; simp)
    | int b => exact same_leaf X (.int b) rfl rfl (by rw [eqX_int]; simp)
    | str a => exact same_leaf X (.str a) rfl rfl (eqX_str h)
    | lst l =>
      obtain ⟨h1, h2⟩ := and2 (show (decide (l.length ≤ 1000) && l.all (samB n)) = true from h)
      exact same_seq X (.inl rfl) (of_decide_eq_true h1) fun x hx => same_of X (List.all_eq_true.mp h2 x hx)
    | tup l =>
      obtain ⟨h1, h2⟩ := and2 (show (decide (l.length ≤ 1000) && l.all (samB n)) = true from h)
      exact same_seq X (.inr rfl) (of_decide_eq_true h1) fun x hx => same_of X (List.all_eq_true.mp h2 x hx)
    | dk ks l =>
      obtain ⟨h1, h2⟩ := and2 (show (decide (l.length ≤ 1000) && samB n (.lst (itemsO ks l))) = true from h)
      exact same_dk X (of_decide_eq_true h1) (same_of X h2)
    | _ => cases h
/-! ### odd things -/
def oddA : List T := [.non, .bl true, .int 5, .int (-1), .str "ab", .str "", .lst [], .tup [], .tup [.int 1, .int 2, .int 3, .int 4], .lst [.int 0, .int (-1)], .tup [.int 1, .bl true], .tup [.bl false], .lst [.lst [.int 1], .lst [.int 2]], .dk [] [], .dk [.inl 1] [.int 2]]
def oddB : List T := [.tup [.int 1, .non], .tup [.str "1", .str "2"], .lst [.int 1, .str "1", .int 1], .tup [.int 0, .tup [.int 1]], .lst [.int (-1)], .tup [.int 2, .int 3, .int (-4)]]
def oddL (Z : Ads) : List T := (oddA ++ oddB) ++ [.ob Z.o__law_dot, progT Z]
def kndB : T → Bool
  | .non => true
  | .bl _ => true
  | .int _ => true
  | .str _ => true
  | .lst _ => true
  | .tup _ => true
  | .dk _ _ => true
  | _ => false
theorem knd_of {t : T} (h : kndB t = true) : Knd Z t := by
  cases t <;> first | constructor | cases h
def oddB2 (t : T) : Bool := kndB t && (match seqT t with | some l => l.all kndB | none => true) && samB 7 t && !isA t none
theorem odd_all : (oddA ++ oddB).all oddB2 = true := by decide +kernel
/-- what the law knows of an odd thing -/
structure Odd (K : PySem.W.Frag) (Z : Ads) (t : T) : Prop where
  kn : Kn2 Z t
  sm : f__law_same K Z 7 [t, t] = .ok (.bl true)
  no : isA t none = false
theorem odd_of (X : Fx P w K mg base Z) {t : T} (h : t ∈ oddL Z) : Odd K Z t := by
  rcases List.mem_append.mp h with h | h
  · have hb := List.all_eq_true.mp odd_all t h
    obtain ⟨h1, h2⟩ := and2 (show (kndB t && (match seqT t with | some l => l.all kndB | none => true) && samB 7 t && !isA t none) = true from hb)
    obtain ⟨h3, h4⟩ := and2 h1
    obtain ⟨h5, h6⟩ := and2 h3
    refine ⟨⟨knd_of h5, fun l hl x hx => ?_⟩, same_of X h4, by simpa using h2⟩
    rw [hl] at h6
    exact knd_of (List.all_eq_true.mp h6 x hx)
  · rcases List.mem_cons.mp h with rfl | h
    · exact ⟨⟨.fn, fun l hl => nomatch hl⟩, same_fn X 6, rfl⟩
    · rw [List.mem_singleton.mp h]
      exact ⟨⟨.ins _ _, fun l hl => nomatch hl⟩, same_prog X 6, rfl⟩
theorem make_ok (X : Fx P w K mg base Z) (s : DS) (ρ : En) : mFz (mMake Z.o_Program (f_Program_init K Z) 3 (mCons (mLst (mCons (mC (.str "flat")) (mNil))) (mCons (mLst (mNil)) (mNil)))) ρ [dst s] = .ok (.t (progT Z)) [dst s, .dead] := by
  have hi := init_ok X
  have hg : mCons (mLst (mCons (mC (.str "flat")) (mNil))) (mCons (mLst (mNil)) (mNil)) ρ [dst s] = .ok [.t (.lst [.str "flat"]), .t (.lst [])] [dst s] := by simp [outM, ap_mP, ap_mC, ap_mVar, ap_m1, ap_m2, ap_mN, ap_mIx, ap_mNil, ap_mCons, ap_mLst, ap_mLstR, ap_mTup, ap_mTru, ap_mBl, ap_mAndT, ap_mOrT, ap_mNotT, ap_mIf, ap_mAndV, ap_mOrV, ap_mNotV, ap_moNone, ap_moSome, ap_mSl, ap_mgName, ap_mgNil, ap_mgCons, ap_mgTup, ap_mgSub, ap_mYes, ap_msNext, ap_msSeq, ap_msRet, ap_msRetF, ap_msRetN, ap_msIf, ap_msAsg, ap_msBrk, ap_msCnt, ap_msDrop, ap_msFz, ap_mCallP, ap_mErrF, ap_mFz, ap_mD1, ap_msBad, ap_msPar, mCall_eq, sb_ok, sb_er, sl_ok, sl_er, so_ok, sn_ok, vw_t, vws_nil, vws_cons, unT_nil, unT_cons, sq1, sq2, ln1, ln2, tr1, tr2, oEq_int, oI, blD, Zy.intD, frz, szB, sizeLine_eq]
  have hc := call1 (f := f_Program_init K Z) (gs := fun _ μ2 => .ok (.r 1 :: [.t (.lst [.str "flat"]), .t (.lst [])]) μ2) (ρ := ρ) (μ := [dst s, .ins Z.o_Program [] []]) (μ1 := [dst s, .ins Z.o_Program [] []]) (i := 1) (n := 3) (ts := [.lst [.str "flat"], .lst []]) (m := .ins Z.o_Program [] []) (m' := progM Z) (g := []) (r := .non) rfl rfl rfl rfl rfl hi
  have hn : mNew Z.o_Program (f_Program_init K Z) 3 (fun _ _ => .ok [.t (.lst [.str "flat"]), .t (.lst [])] [dst s]) ρ [dst s] = .ok (.r 1) [dst s, progM Z] := by
    rw [ap_mNew, sb_ok]
    show ((mCall (f_Program_init K Z) [] 3 (fun _ μ2 => .ok (D.r 1 :: [D.t (.lst [.str "flat"]), D.t (.lst [])]) μ2) ρ [dst s, MO.ins Z.o_Program [] []]).bind fun d μ3 => match d with
      | D.t .non => Sr.ok (D.r 1) μ3
      | _ => .bad) = _
    rw [hc]; rfl
  rw [ap_mFz, ap_mMake, hg]
  show ((mNew Z.o_Program (f_Program_init K Z) 3 (fun _ _ => .ok [.t (.lst [.str "flat"]), .t (.lst [])] [dst s]) ρ [dst s]).only.bind _) = _
  rw [hn]; rfl
theorem em_cons {ga : Sx} {gs : Sa} {ρ : En} {μ μ1 μ2 : Mu} {d : D} {l : List D} (h1 : ga ρ μ = .ok d μ1) (h2 : gs ρ μ1 = .ok l μ2) : mCons ga gs ρ μ = .ok (d :: l) μ2 := by
  rw [ap_mCons, h1, sb_ok, h2]; rfl
theorem em_2 {f : O2} {ga gb : Sx} {ρ : En} {μ μ1 μ2 : Mu} {d d' : D} {t u r : T} (h1 : ga ρ μ = .ok d μ1) (h2 : gb ρ μ1 = .ok d' μ2) (h3 : vw μ2 d = some t) (h4 : vw μ2 d' = some u) (h5 : f t u = some r) : m2 f ga gb ρ μ = .ok (.t r) μ2 := by
  rw [ap_m2, h1, sb_ok, h2, sb_ok, h3, h4]
  show Sr.of ((f t u).map D.t) μ2 = _
  rw [h5]; rfl
theorem oPlus_l {l m : List T} (h : l.length + m.length ≤ 1000) : oPlus (.lst l) (.lst m) = some (.lst (l ++ m)) := by
  have hz : l.length + m.length ≤ 16777216 := by omega
  simp [oPlus, lstT, sizeLine_eq, hz]
theorem odd_ok (X : Fx P w K mg base Z) {m : Nat} {s : DS} (h : DV (m + 1) s) : ∃ x s', f__law_odd K Z [.r 0] [dst s] = .ok (.t x) [dst s', .dead] ∧ x ∈ oddL Z ∧ DV m s' := by
  have hl : (oddL Z).length = 23 := rfl
  obtain ⟨x, s', e, hx, hs⟩ := pick_call (K := K) (Z := Z) (t := .lst (oddL Z)) (l := oddL Z) h rfl rfl (fun q => by rw [q] at hl; cases hl) (by rw [hl]; decide)
  have hm := make_ok X s
  refine ⟨x, s', runM_ev (ρ := [some (.r 0), none]) (o := some (.rt (.t x) [dst s', .dead])) rfl ?_ rfl, hx, hs⟩
  have e' := e [.dead]
  have hA : oPlus (.lst oddA) (.lst oddB) = some (.lst (oddA ++ oddB)) := oPlus_l (by decide)
  have hB : oPlus (.lst (oddA ++ oddB)) (.lst [.ob Z.o__law_dot, progT Z]) = some (.lst (oddL Z)) := oPlus_l (by show 21 + 2 ≤ 1000; decide)
  unfold g__law_odd
  refine (sq_nx _ _ _ _ _ _ (?_ : _ = some (Mo.nx [some (D.r 0), some (D.t (T.lst oddA))] [dst s]))).trans ?_
  · simp [outM, ap_mP, ap_mC, ap_mVar, ap_m1, ap_m2, ap_mN, ap_mIx, ap_mNil, ap_mCons, ap_mLst, ap_mLstR, ap_mTup, ap_mTru, ap_mBl, ap_mAndT, ap_mOrT, ap_mNotT, ap_mIf, ap_mAndV, ap_mOrV, ap_mNotV, ap_moNone, ap_moSome, ap_mSl, ap_mgName, ap_mgNil, ap_mgCons, ap_mgTup, ap_mgSub, ap_mYes, ap_msNext, ap_msSeq, ap_msRet, ap_msRetF, ap_msRetN, ap_msIf, ap_msAsg, ap_msBrk, ap_msCnt, ap_msDrop, ap_msFz, ap_mCallP, ap_mErrF, ap_mFz, ap_mD1, ap_msBad, ap_msPar, mCall_eq, sb_ok, sb_er, sl_ok, sl_er, so_ok, sn_ok, vw_t, vws_nil, vws_cons, unT_nil, unT_cons, sq1, sq2, ln1, ln2, tr1, tr2, oEq_int, oI, blD, Zy.intD, frz, szB, ap_mD1, ap_m1, oNeg, sizeLine_eq, oddA]
  refine (sq_nx _ _ _ _ _ _ (?_ : _ = some (Mo.nx [some (D.r 0), some (D.t (T.lst (oddA ++ oddB)))] [dst s]))).trans ?_
  · rw [ap_msAsg, ap_m2, ap_mVar]
    have h1 : (mLst (mCons (mTup (mCons (mC (.int 1)) (mCons (mC (.non)) (mNil)))) (mCons (mTup (mCons (mC (.str "1")) (mCons (mC (.str "2")) (mNil)))) (mCons (mLst (mCons (mC (.int 1)) (mCons (mC (.str "1")) (mCons (mC (.int 1)) (mNil))))) (mCons (mTup (mCons (mC (.int 0)) (mCons (mTup (mCons (mC (.int 1)) (mNil))) (mNil)))) (mCons (mLst (mCons (m1 oNeg (mC (.int 1))) (mNil))) (mCons (mTup (mCons (mC (.int 2)) (mCons (mC (.int 3)) (mCons (m1 oNeg (mC (.int 4))) (mNil))))) (mNil)))))))) [some (.r 0), some (.t (.lst oddA))] [dst s] = .ok (.t (.lst oddB)) [dst s] := by
      simp [outM, ap_mP, ap_mC, ap_mVar, ap_m1, ap_m2, ap_mN, ap_mIx, ap_mNil, ap_mCons, ap_mLst, ap_mLstR, ap_mTup, ap_mTru, ap_mBl, ap_mAndT, ap_mOrT, ap_mNotT, ap_mIf, ap_mAndV, ap_mOrV, ap_mNotV, ap_moNone, ap_moSome, ap_mSl, ap_mgName, ap_mgNil, ap_mgCons, ap_mgTup, ap_mgSub, ap_mYes, ap_msNext, ap_msSeq, ap_msRet, ap_msRetF, ap_msRetN, ap_msIf, ap_msAsg, ap_msBrk, ap_msCnt, ap_msDrop, ap_msFz, ap_mCallP, ap_mErrF, ap_mFz, ap_mD1, ap_msBad, ap_msPar, mCall_eq, sb_ok, sb_er, sl_ok, sl_er, so_ok, sn_ok, vw_t, vws_nil, vws_cons, unT_nil, unT_cons, sq1, sq2, ln1, ln2, tr1, tr2, oEq_int, oI, blD, Zy.intD, frz, szB, ap_m1, oNeg, sizeLine_eq, oddB]
    show liftM (Sr.bind (Sr.ok (D.t (T.lst oddA)) [dst s]) fun d μ1 => Sr.bind (mLst _ [some (.r 0), some (.t (.lst oddA))] μ1) _) _ _ = _
    rw [sb_ok, h1, sb_ok]
    simp [outM, ap_mP, ap_mC, ap_mVar, ap_m1, ap_m2, ap_mN, ap_mIx, ap_mNil, ap_mCons, ap_mLst, ap_mLstR, ap_mTup, ap_mTru, ap_mBl, ap_mAndT, ap_mOrT, ap_mNotT, ap_mIf, ap_mAndV, ap_mOrV, ap_mNotV, ap_moNone, ap_moSome, ap_mSl, ap_mgName, ap_mgNil, ap_mgCons, ap_mgTup, ap_mgSub, ap_mYes, ap_msNext, ap_msSeq, ap_msRet, ap_msRetF, ap_msRetN, ap_msIf, ap_msAsg, ap_msBrk, ap_msCnt, ap_msDrop, ap_msFz, ap_mCallP, ap_mErrF, ap_mFz, ap_mD1, ap_msBad, ap_msPar, mCall_eq, sb_ok, sb_er, sl_ok, sl_er, so_ok, sn_ok, vw_t, vws_nil, vws_cons, unT_nil, unT_cons, sq1, sq2, ln1, ln2, tr1, tr2, oEq_int, oI, blD, Zy.intD, frz, szB, hA]
  · have hl2 : mLst (mCons (mC (.ob Z.o__law_dot)) (mCons (mFz (mMake Z.o_Program (f_Program_init K Z) 3 (mCons (mLst (mCons (mC (.str "flat")) (mNil))) (mCons (mLst (mNil)) (mNil))))) (mNil))) [some (.r 0), some (.t (.lst (oddA ++ oddB)))] [dst s] = .ok (.t (.lst [.ob Z.o__law_dot, progT Z])) [dst s, .dead] := by
      rw [ap_mLst, ap_mCons, ap_mC, sb_ok, ap_mCons, hm]
      simp [outM, ap_mP, ap_mC, ap_mVar, ap_m1, ap_m2, ap_mN, ap_mIx, ap_mNil, ap_mCons, ap_mLst, ap_mLstR, ap_mTup, ap_mTru, ap_mBl, ap_mAndT, ap_mOrT, ap_mNotT, ap_mIf, ap_mAndV, ap_mOrV, ap_mNotV, ap_moNone, ap_moSome, ap_mSl, ap_mgName, ap_mgNil, ap_mgCons, ap_mgTup, ap_mgSub, ap_mYes, ap_msNext, ap_msSeq, ap_msRet, ap_msRetF, ap_msRetN, ap_msIf, ap_msAsg, ap_msBrk, ap_msCnt, ap_msDrop, ap_msFz, ap_mCallP, ap_mErrF, ap_mFz, ap_mD1, ap_msBad, ap_msPar, mCall_eq, sb_ok, sb_er, sl_ok, sl_er, so_ok, sn_ok, vw_t, vws_nil, vws_cons, unT_nil, unT_cons, sq1, sq2, ln1, ln2, tr1, tr2, oEq_int, oI, blD, Zy.intD, frz, szB, sizeLine_eq]
    have hc : mCons (mVar 0) (mCons (m2 oPlus (mVar 1) (mLst (mCons (mC (.ob Z.o__law_dot)) (mCons (mFz (mMake Z.o_Program (f_Program_init K Z) 3 (mCons (mLst (mCons (mC (.str "flat")) (mNil))) (mCons (mLst (mNil)) (mNil))))) (mNil))))) (mNil)) [some (.r 0), some (.t (.lst (oddA ++ oddB)))] [dst s] = .ok [.r 0, .t (.lst (oddL Z))] [dst s, .dead] := by
      exact em_cons rfl (em_cons (em_2 rfl hl2 rfl rfl hB) rfl)
    rw [ap_msRet, mCall_eq, hc, sb_ok, e', sl_ok]
theorem odd_call (X : Fx P w K mg base Z) {m : Nat} {s : DS} (h : DV (m + 1) s) : ∃ x s', (∀ rest, callM (f__law_odd K Z) [] 1 [.r 0] (dst s :: rest) = .ok (.t x) (dst s' :: rest)) ∧ x ∈ oddL Z ∧ DV m s' := by
  obtain ⟨x, s', e, h1, h2⟩ := odd_ok X h
  exact ⟨x, s', fun rest => callD (ts := []) e rfl rfl rfl rest, h1, h2⟩
end
end K1
set_option Elab.async false
set_option linter.all false
set_option maxRecDepth 100000
set_option maxHeartbeats 400000
namespace K1
open PySem PySem.Spec PyProof.Rows L2 Zy
section
variable {P : Program} {w : World} {K : PySem.W.Frag} {mg : Str → Option Value} {base : Heap} {Z : Ads}
theorem em_call {f : Fm} {n : Nat} {gs : Sa} {ρ : En} {μ μ1 : Mu} {ds : List D} {r : Sr D} (hg : gs ρ μ = .ok ds μ1) (hc : callM f [] n ds μ1 = r) : mCall f [] n gs ρ μ = r := by
  rw [mCall_eq, hg, sb_ok, hc]
theorem em_callK {f : Fm} {n m : Nat} {perm : List Nat} {gs : Sa} {ρ : En} {μ μ1 : Mu} {ds : List D} {r : Sr D} (hg : gs ρ μ = .ok ds μ1) (hm : ds.length = m) (hc : callM f [] n (pick perm ds) μ1 = r) : mCallK f perm m n gs ρ μ = r := by
  rw [ap_mCallK, hg, sb_ok, if_pos hm]; exact hc
theorem em_callP {f : List T → Pr T} {n : Nat} {gs : Sa} {ρ : En} {μ μ1 : Mu} {ts : List T} {r : T} (hg : gs ρ μ = .ok (ts.map D.t) μ1) (hn : ts.length = n) (hf : f ts = .ok r) : mCallP f [] n gs ρ μ = .ok (.t r) μ1 := by
  rw [ap_mCallP, hg, sb_ok, if_pos (by simpa using hn)]
  rw [unT_of]
  show (match f (ts ++ []) with
    | .ok r => Sr.ok (D.t r) μ1
    | .er e => .er e μ1
    | .bad => .bad) = _
  rw [List.append_nil, hf]
theorem em_lst {gs : Sa} {ρ : En} {μ μ1 : Mu} {l : List T} (hg : gs ρ μ = .ok (l.map D.t) μ1) (z : l.length ≤ 1000) : mLst gs ρ μ = .ok (.t (.lst l)) μ1 := by
  have hz : l.length ≤ 16777216 := by omega
  rw [ap_mLst, hg, sb_ok, unT_of]
  simp [sizeLine_eq, hz, szL, so_ok]
theorem back_t {μ μ' : Mu} {t : T} : backM μ [] (.t t) μ' = .ok (.t t) μ := by
  unfold backM
  rw [if_pos ⟨Nat.zero_le _, rfl⟩]; rfl
theorem callTT {f : Fm} {ts : List T} {n : Nat} {t : T} {μ μ' : Mu} (hn : ts.length = n) (hf : f (ts.map D.t) [] = .ok (.t t) μ') : callM f [] n (ts.map D.t) μ = .ok (.t t) μ :=
  (callT hn hf).trans back_t
/-- the same: a thing and itself -/
theorem if_same {gs : Sa} {ρ : En} {μ μ1 : Mu} {t : T} (hg : gs ρ μ = .ok [.t t, .t t] μ1) (hs : f__law_same K Z 8 [t, t] = .ok (.bl true)) : msIf (mNotT (mTru (mCallP (f__law_same K Z 8) [] 2 gs))) (msRet (mC (.bl false))) msNext ρ μ = some (.nx ρ μ1) := by
  have h := em_callP (f := f__law_same K Z 8) (n := 2) (ts := [t, t]) hg rfl hs
  simp [outM, ap_mP, ap_mC, ap_mVar, ap_m1, ap_m2, ap_mN, ap_mIx, ap_mNil, ap_mCons, ap_mLst, ap_mLstR, ap_mTup, ap_mTru, ap_mBl, ap_mAndT, ap_mOrT, ap_mNotT, ap_mIf, ap_mAndV, ap_mOrV, ap_mNotV, ap_moNone, ap_moSome, ap_mSl, ap_mgName, ap_mgNil, ap_mgCons, ap_mgTup, ap_mgSub, ap_mYes, ap_msNext, ap_msSeq, ap_msRet, ap_msRetF, ap_msRetN, ap_msIf, ap_msAsg, ap_msBrk, ap_msCnt, ap_msDrop, ap_msFz, ap_mCallP, ap_mErrF, ap_mFz, ap_mD1, ap_msBad, ap_msPar, mCall_eq, sb_ok, sb_er, sl_ok, sl_er, so_ok, sn_ok, vw_t, vws_nil, vws_cons, unT_nil, unT_cons, sq1, sq2, ln1, ln2, tr1, tr2, oEq_int, oI, blD, Zy.intD, frz, szB, hg, hs]
theorem same_two (X : Fx P w K mg base Z) {a : Str} {t : T} (ha : PyData.strOk a = true) (h : f__law_same K Z 7 [t, t] = .ok (.bl true)) : f__law_same K Z 8 [.lst [.str a, t], .lst [.str a, t]] = .ok (.bl true) :=
  same_seq X (.inl rfl) (by show 2 ≤ 1000; decide) fun x hx => by
    rcases List.mem_cons.mp hx with rfl | hx
    · exact same_of X ha
    · rw [List.mem_singleton.mp hx]; exact h
theorem amt_isA {t : T} {ns : List Int} {many : Nat} (ht : IsR t ns) (h : Amt many ns) (h1 : 1 ≤ many) (h3 : many ≤ 3) {m : Option Nat} (hm : ∀ k, m = some k → many = k) : isA t m = true :=
  isA_of ht (by rw [h.1]; omega) (fun n hn => (h.2 n hn).1) fun k e => h.1.trans (hm k e)
theorem amt_bd {ns : List Int} {b : Int} {many : Nat} (h : AmB b many ns) (hb : b ≤ 2 ^ 63) : Bd ns := fun n hn => by
  have := h.2 n hn
  constructor <;> omega
theorem isR_of {t : T} {ns : List Int} (h : t = .tup (iL ns) ∨ t = .lst (iL ns)) : IsR t ns := h.symm
/-- a bad row of prices -/
def BadP (Z : Ads) (many : Nat) (t : T) : Prop := Kn2 Z t ∧ (isA t (some many) = false ∨ ∃ ms, IsR t ms ∧ ms.length ≤ 1000 ∧ isA t (some many) = true ∧ (ms.any fun n => decide (0 < n)) = false)
theorem isA_some {t : T} {k : Nat} (h : isA t none = false) : isA t (some k) = false := by
  cases e : isA t (some k) with
  | false => rfl
  | true =>
    obtain ⟨ns, h1, h2, h3, _⟩ := isA_row e
    rw [isA_of (m := none) h1 h2 h3 (fun _ q => nomatch q)] at h; cases h
theorem badp_len {ns : List Int} {many : Nat} (h : ns.length ≠ many) : BadP Z many (.lst (iL ns)) := by
  refine ⟨kn_row (.inl rfl), .inl ?_⟩
  cases e : isA (.lst (iL ns)) (some many) with
  | false => rfl
  | true =>
    obtain ⟨ms, h1, _, _, h4⟩ := isA_row e
    have h5 := h4 many rfl
    rcases h1 with h1 | h1
    · have h6 : iL ns = iL ms := by injection h1
      have h7 := congrArg List.length h6
      rw [List.length_map, List.length_map] at h7
      exact absurd (h7.trans h5) h
    · cases h1
theorem badp_neg {ns : List Int} {many : Nat} {n : Int} (h : n ∈ ns) (hn : n < 0) : BadP Z many (.lst (iL ns)) := by
  refine ⟨kn_row (.inl rfl), .inl ?_⟩
  rw [isA_seq (l := iL ns) _ (.inl rfl)]
  have e : (iL ns).all isN = false := by
    rw [List.all_eq_false]
    refine ⟨.int n, List.mem_map.mpr ⟨n, h, rfl⟩, ?_⟩
    show ¬ decide (0 ≤ n) = true
    rw [decide_eq_true_iff]; omega
  rw [e, Bool.and_false]
theorem badp_zero {t : T} {many : Nat} (h1 : 1 ≤ many) (h3 : many ≤ 3) (ht : IsR t (List.replicate many 0)) : BadP Z many t := by
  refine ⟨kn_row ht, .inr ⟨_, ht, by rw [List.length_replicate]; omega, isA_of ht (by rw [List.length_replicate]; omega) (fun n hn => ?_) fun k e => ?_, ?_⟩⟩
  · rw [(List.mem_replicate.mp hn).2]; exact Int.le_refl _
  · cases e; rw [List.length_replicate]
  · rw [List.any_eq_false]
    intro x hx
    rw [(List.mem_replicate.mp hx).2]; decide
end
end K1
set_option Elab.async false
set_option linter.all false
set_option maxRecDepth 100000
set_option maxHeartbeats 400000
namespace K1
open PySem PySem.Spec PyProof.Rows L2 Zy
section
variable {P : Program} {w : World} {K : PySem.W.Frag} {mg : Str → Option Value} {base : Heap} {Z : Ads}
/-- a call with one thing of the store, whatever comes back -/
theorem callB {f : Fm} {n : Nat} {ts : List T} {m : MO} {rest μ' : Mu} {d : D} (hn : ts.length + 1 = n) (hp : purM m = true) (hf : f (.r 0 :: ts.map D.t) [m] = .ok d μ') : callM f [] n (.r 0 :: ts.map D.t) (m :: rest) = backM (m :: rest) [0] d μ' := by
  have h1 : (ts.map D.t).filterMap rOf = [] := by
    clear hf hn
    induction ts with
    | nil => rfl
    | cons t l ih => simp [rOf]
  have hr : refs (D.r 0 :: ts.map D.t) = [0] := by
    unfold refs
    rw [List.filterMap_cons]
    show ddp (0 :: (ts.map D.t).filterMap rOf) = [0]
    rw [h1]; rfl
  have hs : sub (m :: rest) [0] = some [m] := by
    unfold sub
    show (if purM m = true then (sub (m :: rest) []).map (m :: ·) else none) = _
    rw [if_pos hp]; rfl
  have hren : (D.r 0 :: ts.map D.t).map (ren [0]) ++ ([] : List T).map D.t = D.r 0 :: ts.map D.t := by
    have h2 : ts.map (ren [0] ∘ D.t) = ts.map D.t := List.map_congr_left fun t _ => rfl
    simp [ren, h2]
  unfold callM mCall
  show (if (D.r 0 :: ts.map D.t).length + ([] : List T).length = n then (match sub (m :: rest) (refs (D.r 0 :: ts.map D.t)) with
    | none => Sr.bad
    | some μs => match f ((D.r 0 :: ts.map D.t).map (ren (refs (D.r 0 :: ts.map D.t))) ++ ([] : List T).map D.t) μs with
      | .bad => .bad
      | .ok d μ' => backM (m :: rest) (refs (D.r 0 :: ts.map D.t)) d μ'
      | .er e μ' => if (refs (D.r 0 :: ts.map D.t)).length ≤ μ'.length ∧ allP (μ'.take (refs (D.r 0 :: ts.map D.t)).length) = true then .er e (put (m :: rest) (refs (D.r 0 :: ts.map D.t)) (μ'.take (refs (D.r 0 :: ts.map D.t)).length)) else .bad) else .bad) = _
  rw [if_pos (by simpa using hn), hr, hs]
  show (match f ((D.r 0 :: ts.map D.t).map (ren [0]) ++ ([] : List T).map D.t) [m] with
    | .bad => Sr.bad
    | .ok d μ' => backM (m :: rest) [0] d μ'
    | .er e μ' => if [0].length ≤ μ'.length ∧ allP (μ'.take [0].length) = true then .er e (put (m :: rest) [0] (μ'.take [0].length)) else .bad) = _
  rw [hren, hf]
theorem back_one {m m' m2 : MO} {rest : Mu} (hp' : purM m' = true) (hp2 : purM m2 = true) : backM (m :: rest) [0] (.r 1) [m', m2] = .ok (.r (rest.length + 1)) (m' :: rest ++ [m2]) := by
  unfold backM
  rw [if_pos ⟨by simp, by simp [allP, hp']⟩]
  show (if purM m2 = true then Sr.ok (D.r (m :: rest).length) (put (m :: rest) [0] [m'] ++ [m2]) else _) = _
  rw [if_pos hp2]; rfl
theorem prices_call {m many : Nat} {s : DS} (hm : many ≤ 3) (hm0 : 1 ≤ many) (h : DV (m + 2 + 1 * many) s) : ∃ ns s', callM (f__law_prices K Z) [] 2 [.r 0, .t (.int many)] [dst s] = .ok (.r 1) [dst s', .lst ((iL ns).map D.t)] ∧ Prc many ns ∧ DV m s' := by
  obtain ⟨ns, s', e, h1, h2⟩ := prices_ok (K := K) (Z := Z) hm hm0 h
  exact ⟨ns, s', (callB (ts := [.int many]) (rest := []) rfl rfl e).trans (back_one rfl (pur_lst _)), h1, h2⟩
theorem handed_call {m : Nat} {s : DS} {rows : List T} (hr : ∀ x ∈ rows, ∃ l, (x = .tup l ∨ x = .lst l) ∧ l.length ≤ 1000000) (hz : rows.length ≤ 1000000) (h : DV (m + 1 + 1 * rows.length) s) :
    ∃ t ls s', (∀ rest, callM (f__law_handed K Z) [] 2 [.r 0, .t (.lst rows)] (dst s :: rest) = .ok (.t t) (dst s' :: rest)) ∧ (t = .lst ls ∨ t = .tup ls) ∧ Paired SameIt rows ls ∧ DV m s' := by
  obtain ⟨t, ls, s', e, h1, h2, h3⟩ := handed_ok (K := K) (Z := Z) hr hz h
  exact ⟨t, ls, s', fun rest => callD (ts := [.lst rows]) e rfl rfl rfl rest, h1, h2, h3⟩
theorem em_ix {ga gb : Sx} {ρ : En} {μ μ1 μ2 : Mu} {t x : T} {k : Int} {l : List T} (h1 : ga ρ μ = .ok (.t t) μ1) (h2 : gb ρ μ1 = .ok (.t (.int k)) μ2) (h3 : seqT t = some l) (h4 : atI l k = some x) : mIx ga gb ρ μ = .ok (.t x) μ2 := by
  rw [ap_mIx, h1, sb_ok, h2, sb_ok]
  show Sr.of (((seqT t).map fun l => l.map D.t).bind fun l => atI l k) μ2 = _
  rw [h3]
  show Sr.of (atI (l.map D.t) k) μ2 = _
  rw [atI_map, h4]; rfl
theorem em_sl {ga : Sx} {gl gh : So} {ρ : En} {μ μ1 μ2 μ3 : Mu} {t r : T} {lo hi : Option Int} (h1 : ga ρ μ = .ok (.t t) μ1) (h2 : gl ρ μ1 = .ok lo μ2) (h3 : gh ρ μ2 = .ok hi μ3) (h4 : slT lo hi t = some r) : mSl ga gl gh ρ μ = .ok (.t r) μ3 := by
  rw [ap_mSl, h1, sb_ok, h2, sb_ok, h3, sb_ok]
  show Sr.of ((slT lo hi t).map D.t) μ3 = _
  rw [h4]; rfl
theorem times_l {many : Nat} (h : many = 1 ∨ many = 2 ∨ many = 3) : oTimesX (.lst [.int 0]) (.int many) = some (.lst (iL (List.replicate many 0))) := by
  rcases h with rfl | rfl | rfl <;> rfl
theorem times_t {many : Nat} (h : many = 1 ∨ many = 2 ∨ many = 3) : oTimesX (.tup [.int 0]) (.int many) = some (.tup (iL (List.replicate many 0))) := by
  rcases h with rfl | rfl | rfl <;> rfl
theorem slice_last {l : List T} (hz : l.length ≤ 1000) : slT none (some (-1)) (.lst l) = some (.lst (l.take (l.length - 1))) := by
  unfold slT
  show ((szL l).map fun l => T.lst (cutT l none (some (-1)))) = _
  unfold szL
  rw [if_pos (le_size (by omega))]
  show some (T.lst (cutT l none (some (-1)))) = _
  unfold cutT
  have h1 : HT.sIx l.length 0 none = 0 := rfl
  have h2 : HT.sIx l.length l.length (some (-1)) = l.length - 1 := by
    simp [HT.sIx]; omega
  rw [h1, h2]; simp
end
end K1
set_option Elab.async false
set_option linter.all false
set_option maxRecDepth 100000
set_option maxHeartbeats 400000
namespace K1
open PySem PySem.Spec PyProof.Rows L2 Zy
section
variable {P : Program} {w : World} {K : PySem.W.Frag} {mg : Str → Option Value} {base : Heap} {Z : Ads}
theorem em_asg {g : Sx} {i : Nat} {ρ : En} {μ μ1 : Mu} {d : D} (h : g ρ μ = .ok d μ1) : msAsg g (mgName i) ρ μ = some (.nx (ρ.set i (some d)) μ1) := by
  rw [ap_msAsg, h]; rfl
theorem em_fz {g : Sx} {ρ : En} {μ μ1 μ2 : Mu} {d : D} {t : T} (h : g ρ μ = .ok d μ1) (h2 : frz μ1 d = some (t, μ2)) : mFz g ρ μ = .ok (.t t) μ2 := by
  rw [ap_mFz, h, sb_ok, h2]
theorem frz_ints {s : DS} {ms : List Int} (hz : ms.length ≤ 1000) : frz [dst s, .lst ((iL ms).map D.t)] (.r 1) = some (.lst (iL ms), [dst s, .dead]) := by
  show ((vwM (.lst ((iL ms).map D.t))).bind fun t => if szB t = true then some (t, [dst s, MO.lst ((iL ms).map D.t)].set 1 .dead) else none) = _
  have hv : vwM (.lst ((iL ms).map D.t)) = some (.lst (iL ms)) := by
    show (unT ((iL ms).map D.t)).map T.lst = _
    rw [unT_of]; rfl
  rw [hv]
  show (if szB (.lst (iL ms)) = true then _ else none) = _
  rw [if_pos (by show decide _ = true; simp; exact le_size (by omega))]; rfl
theorem same_R {x y : T} {ns : List Int} (h : SameIt x y) (hx : IsR x ns) : IsR y ns := by
  obtain ⟨l, h1, h2, _⟩ := h
  have e : l = iL ns := by
    rcases hx with rfl | rfl <;> rcases h1 with h1 | h1 <;> first | (injection h1 with h1; exact h1.symm) | cases h1
  subst e
  exact h2.symm
theorem costs_ok (X : Fx P w K mg base Z) {m many : Nat} {s : DS} (h1 : 1 ≤ many) (h3 : many ≤ 3) (h : DV (m + 30) s) : ∃ s' g, f__law_costs_right K Z [.r 0, .t (.int many)] [dst s] = .ok (.t (.bl true)) (dst s' :: g) ∧ DV m s' := by
  have h123 : many = 1 ∨ many = 2 ∨ many = 3 := by omega
  obtain ⟨ns, s1, e1, a1, d1⟩ := amount_call (K := K) (Z := Z) (m := m + 20) (many := many) h3 (h.mono (by omega))
  obtain ⟨ms, s2, e2, p2, d2⟩ := prices_call (K := K) (Z := Z) (m := m + 15) (many := many) h3 h1 (d1.mono (by omega))
  have aA : Amt many ns := ⟨a1.1, fun n hn => by have := a1.2 n hn; omega⟩
  obtain ⟨g, ls, s3, e3, hg, pr, d3⟩ := handed_call (K := K) (Z := Z) (m := m + 10) (rows := [rowT ns, .lst (iL ms)]) (fun x hx => by
    have l1 : ns.length ≤ 1000000 := by rw [aA.1]; omega
    have l2 : ms.length ≤ 1000000 := by rw [p2.1.1]; omega
    rcases List.mem_cons.mp hx with rfl | hx
    · exact ⟨iL ns, .inl rfl, by rw [List.length_map]; exact l1⟩
    · rw [List.mem_singleton.mp hx]; exact ⟨iL ms, .inr rfl, by rw [List.length_map]; exact l2⟩) (by show 2 ≤ 1000000; decide) (d2.mono (by show m + 10 + 1 + 1 * 2 ≤ m + 15; omega))
  obtain ⟨a, b, rfl, q1, q2⟩ : ∃ a b, ls = [a, b] ∧ SameIt (rowT ns) a ∧ SameIt (.lst (iL ms)) b := by
    cases pr with
    | cons q1 pr => cases pr with
      | cons q2 pr => cases pr; exact ⟨_, _, rfl, q1, q2⟩
  have hRa := same_R q1 (.inr rfl)
  have hRb := same_R q2 (.inl rfl)
  have haA := amt_isA (m := none) hRa aA h1 h3 (fun _ e => nomatch e)
  have hbA : isA b (some ns.length) = true := amt_isA hRb p2.1 h1 h3 (fun k e => by cases e; exact aA.1.symm)
  have hpos : (ms.any fun n => decide (0 < n)) = true := by
    obtain ⟨n, hn, hp⟩ := p2.2
    exact List.any_eq_true.mpr ⟨n, hn, decide_eq_true hp⟩
  have lns : ns.length ≤ 1000 := by rw [aA.1]; omega
  have lms : ms.length ≤ 1000 := by rw [p2.1.1]; omega
  have bd : Bd ns := amt_bd aA (by decide)
  have hcost := cost_ok X hRa haA hRb bd lns lms hbA hpos
  have hdot : f__law_dot K Z [rowT ns, .lst (iL ms)] = .ok (.int (dotI ns ms)) := ldot_ok lns bd (.inr rfl) (.inl rfl)
  have hg0 : seqT g = some [a, b] := by rcases hg with rfl | rfl <;> rfl
  have t1 := fun μ => callTT (μ := μ) (ts := [a, b]) (n := 2) rfl (tcost_ok hcost)
  -- odd
  obtain ⟨x, s4, e4, hx, d4⟩ := odd_call X (m := m + 9) d3
  have ox := odd_of X hx
  obtain ⟨y, s5, e5, hy, d5⟩ := pick_call (K := K) (Z := Z) (m := m + 8) (t := .lst [.lst (iL ms), .non, x]) (l := [.lst (iL ms), .non, x]) d4 rfl rfl (by simp) (by show 3 < 2 ^ 62; decide)
  have t2 := fun μ => callTT (μ := μ) (ts := [x, y]) (n := 2) rfl (tcost_amount X (cost_bad1 X ox.kn ox.no))
  obtain ⟨x2, s6, e6, hx2, d6⟩ := odd_call X (m := m + 7) d5
  have ox2 := odd_of X hx2
  let some6 : List T := [x2, .lst (iL (List.replicate many 0)), .tup (iL (List.replicate many 0)), .lst (iL ms ++ [.int 1]), .lst ((iL ms).drop 1), .lst ((iL ms).take (ms.length - 1) ++ [.int (-1)])]
  obtain ⟨bad, s7, e7, hbad, d7⟩ := pick_call (K := K) (Z := Z) (m := m + 6) (t := .lst some6) (l := some6) d6 rfl rfl (by simp [some6]) (by show 6 < 2 ^ 62; decide)
  have hsam : ∀ t : T, ∀ qs : List Int, IsR t qs → qs.length ≤ 1000 → f__law_same K Z 7 [t, t] = .ok (.bl true) := fun t qs ht hz =>
    same_seq X ht (by rw [List.length_map]; exact hz) fun z hz => by
      obtain ⟨n, _, rfl⟩ := mem_map_iL hz
      exact same_of X rfl
  have hb : BadP Z many bad ∧ f__law_same K Z 7 [bad, bad] = .ok (.bl true) := by
    have ht : ∀ k, (iL ms).take k = iL (ms.take k) := fun k => (List.map_take ..).symm
    have hd : (iL ms).drop 1 = iL (ms.drop 1) := (List.map_drop ..).symm
    have e1 : iL ms ++ [.int 1] = iL (ms ++ [1]) := by simp
    have e2 : (iL ms).take (ms.length - 1) ++ [.int (-1)] = iL (ms.take (ms.length - 1) ++ [-1]) := by rw [ht]; simp
    simp only [some6, e1, hd, e2, List.mem_cons, List.not_mem_nil, or_false] at hbad
    rcases hbad with rfl | rfl | rfl | rfl | rfl | rfl
    · exact ⟨⟨ox2.kn, .inl (isA_some ox2.no)⟩, ox2.sm⟩
    · exact ⟨badp_zero h1 h3 (.inl rfl), hsam _ _ (.inl rfl) (by rw [List.length_replicate]; omega)⟩
    · exact ⟨badp_zero h1 h3 (.inr rfl), hsam _ _ (.inr rfl) (by rw [List.length_replicate]; omega)⟩
    · exact ⟨badp_len (by rw [List.length_append, p2.1.1]; simp), hsam _ _ (.inl rfl) (by rw [List.length_append, p2.1.1]; simp; omega)⟩
    · exact ⟨badp_len (by rw [List.length_drop, p2.1.1]; omega), hsam _ _ (.inl rfl) (by rw [List.length_drop]; omega)⟩
    · exact ⟨badp_neg (n := -1) (List.mem_append_right _ (List.mem_singleton.mpr rfl)) (by decide), hsam _ _ (.inl rfl) (by rw [List.length_append, List.length_take]; simp; omega)⟩
  have hcb := cost_bad2 X hRa haA hb.1.1 (by rw [aA.1]; exact hb.1.2)
  have t3 := fun μ => callTT (μ := μ) (ts := [a, bad]) (n := 2) rfl (tcost_prices X hcb)
  refine ⟨s7, [.dead], ?_, d7.mono (by omega)⟩
  let am : T := rowT ns
  let pc : T := .lst (iL ms)
  let ρ0 : En := [some (.r 0), some (.t (.int many)), none, none, none, none, none, none]
  let ρ1 : En := [some (.r 0), some (.t (.int many)), some (.t am), some (.t pc), none, none, none, none]
  let ρ2 : En := [some (.r 0), some (.t (.int many)), some (.t am), some (.t pc), some (.t g), none, none, none]
  let ρ3 : En := [some (.r 0), some (.t (.int many)), some (.t am), some (.t pc), some (.t g), some (.t x), none, none]
  let ρ4 : En := [some (.r 0), some (.t (.int many)), some (.t am), some (.t pc), some (.t g), some (.t x), some (.t (.lst some6)), none]
  let ρ5 : En := [some (.r 0), some (.t (.int many)), some (.t am), some (.t pc), some (.t g), some (.t x), some (.t (.lst some6)), some (.t bad)]
  refine runM_ev (ρ := ρ0) (o := some (.rt (.t (.bl true)) [dst s7, .dead])) rfl ?_ rfl
  unfold g__law_costs_right
  refine (sq_nx _ _ _ _ _ _ (?_ : _ = some (Mo.nx ρ1 [dst s2, .dead]))).trans ?_
  · have hp := em_fz (em_call (gs := mCons (mVar 0) (mCons (mVar 1) (mNil))) (ρ := ρ0) (μ := [dst s1]) rfl e2) (frz_ints lms)
    have hc := em_cons (em_call (gs := mCons (mVar 0) (mCons (mVar 1) (mNil))) (ρ := ρ0) (μ := [dst s]) rfl (e1 [])) (em_cons hp (h2 := rfl) (gs := mNil) (l := []))
    rw [ap_msPar, hc]; rfl
  refine (sq_nx _ _ _ _ _ _ (?_ : _ = some (Mo.nx ρ2 [dst s3, .dead]))).trans ?_
  · have hl := em_lst (gs := mCons (mVar 2) (mCons (mVar 3) (mNil))) (ρ := ρ1) (μ := [dst s2, .dead]) (l := [am, pc]) rfl (by show 2 ≤ 1000; decide)
    exact em_asg (em_call (em_cons (ga := mVar 0) rfl (em_cons hl rfl)) (e3 [.dead]))
  refine (sq_nx _ _ _ _ _ _ (?_ : _ = some (Mo.nx ρ2 [dst s3, .dead]))).trans ?_
  · have i0 := em_ix (ga := mVar 4) (gb := mC (.int 0)) (ρ := ρ2) (μ := [dst s3, .dead]) rfl rfl hg0 (x := a) rfl
    have i1 := em_ix (ga := mVar 4) (gb := mC (.int 1)) (ρ := ρ2) (μ := [dst s3, .dead]) rfl rfl hg0 (x := b) rfl
    have hc := em_call (em_cons i0 (em_cons i1 (h2 := rfl) (gs := mNil) (l := []))) (t1 [dst s3, .dead])
    have hd := em_callP (gs := mCons (mVar 2) (mCons (mVar 3) mNil)) (ρ := ρ2) (μ := [dst s3, .dead]) (ts := [am, pc]) rfl rfl hdot
    have hl := em_lst (gs := mCons (mC (.str "told")) (mCons _ mNil)) (l := [.str "told", .int (dotI ns ms)]) (em_cons (ga := mC (.str "told")) rfl (em_cons hd (h2 := rfl) (gs := mNil) (l := []))) (by show 2 ≤ 1000; decide)
    exact if_same (em_cons hc (em_cons hl rfl)) (same_two X (by decide +kernel) (same_of X rfl))
  refine (sq_nx _ _ _ _ _ _ (?_ : _ = some (Mo.nx ρ3 [dst s4, .dead]))).trans ?_
  · exact em_asg (em_call (gs := mCons (mVar 0) mNil) rfl (e4 [.dead]))
  refine (sq_nx _ _ _ _ _ _ (?_ : _ = some (Mo.nx ρ3 [dst s5, .dead]))).trans ?_
  · have hl := em_lst (gs := mCons (mVar 3) (mCons (mC (.non)) (mCons (mVar 5) (mNil)))) (ρ := ρ3) (μ := [dst s4, .dead]) (l := [pc, .non, x]) rfl (by show 3 ≤ 1000; decide)
    have hp := em_call (em_cons (ga := mVar 0) rfl (em_cons hl (h2 := rfl) (gs := mNil) (l := []))) (e5 [.dead])
    have hc := em_call (em_cons (ga := mVar 5) rfl (em_cons hp (h2 := rfl) (gs := mNil) (l := []))) (t2 [dst s5, .dead])
    have hl2 := em_lst (gs := mCons (mC (.str "amount")) (mCons (mVar 5) mNil)) (ρ := ρ3) (μ := [dst s5, .dead]) (l := [.str "amount", x]) rfl (by show 2 ≤ 1000; decide)
    exact if_same (em_cons hc (em_cons hl2 rfl)) (same_two X (by decide +kernel) ox.sm)
  refine (sq_nx _ _ _ _ _ _ (?_ : _ = some (Mo.nx ρ4 [dst s6, .dead]))).trans ?_
  · have ho := em_call (gs := mCons (mVar 0) mNil) (ρ := ρ3) (μ := [dst s5, .dead]) rfl (e6 [.dead])
    have hz1 : mLst (mCons (mC (.int 0)) mNil) ρ3 [dst s6, .dead] = .ok (.t (.lst [.int 0])) [dst s6, .dead] := em_lst rfl (by decide)
    have hz2 : mTup (mCons (mC (.int 0)) mNil) ρ3 [dst s6, .dead] = .ok (.t (.tup [.int 0])) [dst s6, .dead] := by simp [outM, ap_mP, ap_mC, ap_mVar, ap_m1, ap_m2, ap_mN, ap_mIx, ap_mNil, ap_mCons, ap_mLst, ap_mLstR, ap_mTup, ap_mTru, ap_mBl, ap_mAndT, ap_mOrT, ap_mNotT, ap_mIf, ap_mAndV, ap_mOrV, ap_mNotV, ap_moNone, ap_moSome, ap_mSl, ap_mgName, ap_mgNil, ap_mgCons, ap_mgTup, ap_mgSub, ap_mYes, ap_msNext, ap_msSeq, ap_msRet, ap_msRetF, ap_msRetN, ap_msIf, ap_msAsg, ap_msBrk, ap_msCnt, ap_msDrop, ap_msFz, ap_mCallP, ap_mErrF, ap_mFz, ap_mD1, ap_msBad, ap_msPar, mCall_eq, sb_ok, sb_er, sl_ok, sl_er, so_ok, sn_ok, vw_t, vws_nil, vws_cons, unT_nil, unT_cons, sq1, sq2, ln1, ln2, tr1, tr2, oEq_int, oI, blD, Zy.intD, frz, szB, sizeLine_eq]
    have hz3 : mLst (mCons (mC (.int 1)) mNil) ρ3 [dst s6, .dead] = .ok (.t (.lst [.int 1])) [dst s6, .dead] := em_lst rfl (by decide)
    have hz4 : mLst (mCons (m1 oNeg (mC (.int 1))) mNil) ρ3 [dst s6, .dead] = .ok (.t (.lst [.int (-1)])) [dst s6, .dead] := by simp [outM, ap_mP, ap_mC, ap_mVar, ap_m1, ap_m2, ap_mN, ap_mIx, ap_mNil, ap_mCons, ap_mLst, ap_mLstR, ap_mTup, ap_mTru, ap_mBl, ap_mAndT, ap_mOrT, ap_mNotT, ap_mIf, ap_mAndV, ap_mOrV, ap_mNotV, ap_moNone, ap_moSome, ap_mSl, ap_mgName, ap_mgNil, ap_mgCons, ap_mgTup, ap_mgSub, ap_mYes, ap_msNext, ap_msSeq, ap_msRet, ap_msRetF, ap_msRetN, ap_msIf, ap_msAsg, ap_msBrk, ap_msCnt, ap_msDrop, ap_msFz, ap_mCallP, ap_mErrF, ap_mFz, ap_mD1, ap_msBad, ap_msPar, mCall_eq, sb_ok, sb_er, sl_ok, sl_er, so_ok, sn_ok, vw_t, vws_nil, vws_cons, unT_nil, unT_cons, sq1, sq2, ln1, ln2, tr1, tr2, oEq_int, oI, blD, Zy.intD, frz, szB, ap_m1, oNeg, sizeLine_eq]
    have r1 := em_2 (gb := mVar 1) hz1 rfl rfl rfl (times_l h123)
    have r2 := em_2 (gb := mVar 1) hz2 rfl rfl rfl (times_t h123)
    have r3 := em_2 (ga := mVar 3) rfl hz3 rfl rfl (oPlus_l (l := iL ms) (m := [.int 1]) (by rw [List.length_map, p2.1.1]; simp; omega))
    have k1 : slT (some (1 : Int)) none pc = some (.lst ((iL ms).drop 1)) := slice_from (iL ms) 1 (by rw [List.length_map, p2.1.1]; omega) (by rw [List.length_map, p2.1.1]; omega)
    have r4 := em_sl (ga := mVar 3) (gl := moSome (mC (.int 1))) (gh := moNone) (ρ := ρ3) (μ := [dst s6, .dead]) rfl rfl rfl k1
    have k2 : slT none (some (-1 : Int)) pc = some (.lst ((iL ms).take ((iL ms).length - 1))) := slice_last (by rw [List.length_map, p2.1.1]; omega)
    rw [List.length_map] at k2
    have k3 : moSome (m1 oNeg (mC (.int 1))) ρ3 [dst s6, .dead] = .ok (some (-1)) [dst s6, .dead] := by simp [outM, ap_mP, ap_mC, ap_mVar, ap_m1, ap_m2, ap_mN, ap_mIx, ap_mNil, ap_mCons, ap_mLst, ap_mLstR, ap_mTup, ap_mTru, ap_mBl, ap_mAndT, ap_mOrT, ap_mNotT, ap_mIf, ap_mAndV, ap_mOrV, ap_mNotV, ap_moNone, ap_moSome, ap_mSl, ap_mgName, ap_mgNil, ap_mgCons, ap_mgTup, ap_mgSub, ap_mYes, ap_msNext, ap_msSeq, ap_msRet, ap_msRetF, ap_msRetN, ap_msIf, ap_msAsg, ap_msBrk, ap_msCnt, ap_msDrop, ap_msFz, ap_mCallP, ap_mErrF, ap_mFz, ap_mD1, ap_msBad, ap_msPar, mCall_eq, sb_ok, sb_er, sl_ok, sl_er, so_ok, sn_ok, vw_t, vws_nil, vws_cons, unT_nil, unT_cons, sq1, sq2, ln1, ln2, tr1, tr2, oEq_int, oI, blD, Zy.intD, frz, szB, ap_m1, oNeg]
    have r5 := em_sl (ga := mVar 3) (gl := moNone) (ρ := ρ3) (μ := [dst s6, .dead]) rfl rfl k3 k2
    have r6 := em_2 r5 hz4 rfl rfl (oPlus_l (l := (iL ms).take (ms.length - 1)) (m := [.int (-1)]) (by rw [List.length_take]; simp; omega))
    exact em_asg (em_lst (l := some6) (em_cons ho (em_cons r1 (em_cons r2 (em_cons r3 (em_cons r4 (em_cons r6 (h2 := rfl) (gs := mNil) (l := []))))))) (by show 6 ≤ 1000; decide))
  refine (sq_nx _ _ _ _ _ _ (?_ : _ = some (Mo.nx ρ5 [dst s7, .dead]))).trans ?_
  · exact em_asg (em_call (gs := mCons (mVar 0) (mCons (mVar 6) mNil)) rfl (e7 [.dead]))
  · have i0 := em_ix (ga := mVar 4) (gb := mC (.int 0)) (ρ := ρ5) (μ := [dst s7, .dead]) rfl rfl hg0 (x := a) rfl
    have hc := em_callK (perm := [1, 0]) (m := 2) (em_cons (ga := mVar 7) rfl (em_cons i0 (h2 := rfl) (gs := mNil) (l := []))) rfl (t3 [dst s7, .dead])
    have hl := em_lst (gs := mCons (mC (.str "prices")) (mCons (mVar 7) mNil)) (ρ := ρ5) (μ := [dst s7, .dead]) (l := [.str "prices", bad]) rfl (by show 2 ≤ 1000; decide)
    have hs := em_callP (f := f__law_same K Z 8) (n := 2) (ts := [.lst [.str "prices", bad], .lst [.str "prices", bad]]) (em_cons hc (em_cons hl (h2 := rfl) (gs := mNil) (l := []))) rfl (same_two X (by decide +kernel) hb.2)
    rw [ap_msRet, hs]; rfl
end
end K1
set_option Elab.async false
set_option linter.all false
set_option maxRecDepth 100000
set_option maxHeartbeats 400000
namespace K1
open PySem PySem.Spec PyProof.Rows L2 Zy
section
variable {P : Program} {w : World} {K : PySem.W.Frag} {mg : Str → Option Value} {base : Heap} {Z : Ads}
theorem pair_rows : ∀ {rows : List (List Int)} {ls : List T}, Paired SameIt (rows.map rowT) ls → Paired (fun ns x => IsR x ns) rows ls
  | [], _, h => by cases h; exact .nil
  | ns :: rows, _, h => by
    rw [List.map_cons] at h
    cases h with
    | cons h1 h2 => exact .cons (same_R h1 (.inr rfl)) (pair_rows h2)
theorem pair_mem {rows : List (List Int)} {ls : List T} (h : Paired (fun ns x => IsR x ns) rows ls) : ∀ x ∈ ls, ∃ ns ∈ rows, IsR x ns := by
  induction h with
  | nil => intro x hx; cases hx
  | cons h1 _ ih =>
    intro x hx
    rcases List.mem_cons.mp hx with rfl | hx
    · exact ⟨_, List.mem_cons_self, h1⟩
    · obtain ⟨ns, q, r⟩ := ih x hx
      exact ⟨ns, List.mem_cons_of_mem _ q, r⟩
theorem pair_tup {rows : List (List Int)} {ls : List T} (h : Paired (fun ns x => IsR x ns) rows ls) : ls.map tupT = rows.map rowT := by
  induction h with
  | nil => rfl
  | cons h1 _ ih =>
    rw [List.map_cons, List.map_cons, ih]
    rcases h1 with rfl | rfl <;> rfl
def isD (many : Nat) (d : PyData) : Prop := ∃ ns, Amt many ns ∧ (d = .list (ns.map PyData.int) ∨ d = .tuple (ns.map PyData.int))
theorem pair_dat {many : Nat} {rows : List (List Int)} {ls : List T} (h : Paired (fun ns x => IsR x ns) rows ls) (hr : ∀ ns ∈ rows, Amt many ns) : ∃ ds, toP.toPs ls = some ds ∧ ds.length = rows.length ∧ ∀ d ∈ ds, isD many d := by
  induction h with
  | nil => exact ⟨[], rfl, rfl, fun d h => nomatch h⟩
  | cons h1 _ ih =>
    rename_i ns x rows ls _
    obtain ⟨ds, e, hl, hd⟩ := ih fun n hn => hr n (List.mem_cons_of_mem _ hn)
    have ha := hr ns List.mem_cons_self
    have key : ∀ d, toP x = some d → isD many d → ∃ ds', toP.toPs (x :: ls) = some ds' ∧ ds'.length = (ns :: rows).length ∧ ∀ d ∈ ds', isD many d := fun d hx hy => by
      refine ⟨d :: ds, ?_, by simp [hl], fun z hz => ?_⟩
      · show (toP x).bind (fun d => (toP.toPs ls).map (d :: ·)) = _
        rw [hx, e]; rfl
      · rcases List.mem_cons.mp hz with rfl | hz
        · exact hy
        · exact hd z hz
    rcases h1 with rfl | rfl
    · exact key (.list (ns.map PyData.int)) (by show (toP.toPs (iL ns)).map PyData.list = _; rw [toPs_iL]; rfl) ⟨ns, ha, .inl rfl⟩
    · exact key (.tuple (ns.map PyData.int)) (toP_row ns) ⟨ns, ha, .inr rfl⟩
theorem log_small {i : Int} (h0 : 0 ≤ i) (h : i < 1000000000000) : i.natAbs.log2 < 1920 := by
  by_cases z : i.natAbs = 0
  · rw [z]; decide
  · have : i.natAbs.log2 < 40 := (Nat.log2_lt z).mpr (by omega)
    omega
theorem isD_ok {many : Nat} {d : PyData} (hm : many ≤ 3) (h : isD many d) : fine d.shown 60 ∧ d.showable = true ∧ d.hasDict = false ∧ d.depth ≤ 1 := by
  obtain ⟨ns, ha, hd⟩ := h
  have h1 : ∀ x ∈ ns.map PyData.int, fine x.shown 13 := fun x hx => by
    obtain ⟨n, hn, rfl⟩ := List.mem_map.mp hx
    have := ha.2 n hn
    rw [PyData.shown]
    exact fine_int (k := 12) (by decide) (by omega)
  have h2 : ∀ x ∈ ns.map PyData.int, x.showable = true := fun x hx => by
    obtain ⟨n, hn, rfl⟩ := List.mem_map.mp hx
    have := ha.2 n hn
    rw [PyData.showable]
    exact decide_eq_true (log_small this.1 this.2)
  have h3 : ∀ x ∈ ns.map PyData.int, x.hasDict = false := fun x hx => by
    obtain ⟨n, hn, rfl⟩ := List.mem_map.mp hx
    rw [PyData.hasDict]
  have hf := fine_seq hd h1
  rw [List.length_map, ha.1] at hf
  refine ⟨hf.mono (by omega), ?_, ?_, ?_⟩
  · rcases hd with rfl | rfl <;> (rw [PyData.showable]; exact showAll_of h2)
  · rcases hd with rfl | rfl <;> (rw [PyData.hasDict]; exact dictAll_of h3)
  · rcases hd with rfl | rfl <;> simp [PyData.depth, dep_ints]
theorem repr_ok {many : Nat} {t : T} {rows : List (List Int)} {ls : List T} (ht : t = .lst ls ∨ t = .tup ls) (h : Paired (fun ns x => IsR x ns) rows ls) (hr : ∀ ns ∈ rows, Amt many ns) (hm : many ≤ 3) (hz : rows.length ≤ 8) : ∃ r, oRepr [t] = some (.str r) ∧ PyData.strOk r = true := by
  obtain ⟨ds, e, hl, hd⟩ := pair_dat h hr
  have key : ∀ d : PyData, (d = .list ds ∨ d = .tuple ds) → toP t = some d → ∃ r, oRepr [t] = some (.str r) ∧ PyData.strOk r = true := by
    intro d hdd hx
    have hf := fine_seq hdd fun x hx => (isD_ok hm (hd x hx)).1
    refine ⟨d.shown, ?_, hf.1⟩
    have h1 : dispT t = true := by rcases ht with rfl | rfl <;> rfl
    have h2 : d.showable = true := by rcases hdd with rfl | rfl <;> (rw [PyData.showable]; exact showAll_of fun x hx => (isD_ok hm (hd x hx)).2.1)
    have h3 : d.hasDict = false := by rcases hdd with rfl | rfl <;> (rw [PyData.hasDict]; exact dictAll_of fun x hx => (isD_ok hm (hd x hx)).2.2.1)
    have h4 : d.depth ≤ 32 := by
      have := depAll_of (n := 1) fun x hx => (isD_ok hm (hd x hx)).2.2.2
      rcases hdd with rfl | rfl <;> (rw [PyData.depth]; omega)
    have h5 : d.shown.length ≤ sizeLine := by
      have := hf.2
      rw [hl] at this
      exact le_size (by omega)
    show (reprT t).map T.str = _
    unfold reprT
    rw [hx]
    show (if _ then _ else _ : Option Str).map T.str = _
    rw [if_pos ⟨h1, h2, h3, h4, h5⟩]; rfl
  rcases ht with rfl | rfl
  · exact key (.list ds) (.inl rfl) (by show (toP.toPs ls).map PyData.list = _; rw [e]; rfl)
  · exact key (.tuple ds) (.inr rfl) (by show (toP.toPs ls).map PyData.tuple = _; rw [e]; rfl)
theorem okS_rows {many : Nat} {rows : List (List Int)} (h1 : 1 ≤ many) (hr : ∀ ns ∈ rows, Amt many ns) (hz : rows.length ≤ 8) : okS rows := by
  refine ⟨by omega, ?_, fun n hn => ⟨?_, fun m hm => ((hr n hn).2 m hm).1⟩⟩
  · cases rows with
    | nil => exact Nat.le_refl _
    | cons a l => show 1 ≤ a.length; rw [(hr a List.mem_cons_self).1]; exact h1
  · cases rows with
    | nil => cases hn
    | cons a l => show n.length = a.length; rw [(hr n hn).1, (hr a List.mem_cons_self).1]
theorem firstBad_of {many : Option Nat} : ∀ {l : List T} {i : Nat}, (∀ x ∈ l, isA x many = true) → firstBad many i l = none
  | [], _, _ => rfl
  | x :: l, i, h => by
    unfold firstBad
    rw [if_pos (h x List.mem_cons_self)]
    exact firstBad_of fun y hy => h y (List.mem_cons_of_mem _ hy)
theorem firstBad_app {many : Option Nat} {bad : T} {rest : List T} (hb : isA bad many = false) : ∀ {l : List T} {i : Nat}, (∀ x ∈ l, isA x many = true) → firstBad many i (l ++ bad :: rest) = some (i + l.length)
  | [], i, _ => by
    show (if isA bad many = true then _ else some i) = _
    rw [if_neg (by rw [hb]; exact Bool.false_ne_true)]; rfl
  | x :: l, i, h => by
    show (if isA x many = true then firstBad many (i + 1) (l ++ bad :: rest) else some i) = _
    rw [if_pos (h x List.mem_cons_self), firstBad_app hb fun y hy => h y (List.mem_cons_of_mem _ hy), List.length_cons]
    congr 1; omega
theorem manyOf_row {many : Nat} {x : T} {ns : List Int} {l : List T} (hx : IsR x ns) (ha : Amt many ns) (h1 : 1 ≤ many) (h3 : many ≤ 3) : manyOf (x :: l) = some many := by
  have hA := amt_isA (m := none) hx ha h1 h3 (fun _ e => nomatch e)
  have hs : seqT x = some (iL ns) := by rcases hx with rfl | rfl <;> rfl
  have hl : (iL ns).length = many := by rw [List.length_map, ha.1]
  show (if isA x none = true then (match seqT x with | some r => some r.length | none => none) else none) = _
  rw [if_pos hA, hs]
  show some (iL ns).length = _
  rw [hl]
theorem given_ok (X : Fx P w K mg base Z) {many : Nat} {t : T} {rows : List (List Int)} {ls : List T} (ht : t = .lst ls ∨ t = .tup ls) (h : Paired (fun ns x => IsR x ns) rows ls) (hr : ∀ ns ∈ rows, Amt many ns) (h1 : 1 ≤ many) (h3 : many ≤ 3) (hz : rows.length ≤ 8) : f_checked_amounts K Z [t] = .ok (.lst (rows.map rowT)) := by
  have hl : ls.length = rows.length := paired_len h
  have hm := pair_mem h
  rw [ca_ok X ht (fun x hx => by obtain ⟨ns, _, r⟩ := hm x hx; exact kn_row r) (by omega)]
  have hf : firstBad (manyOf ls) 0 ls = none := by
    refine firstBad_of fun x hx => ?_
    obtain ⟨ns, q, r⟩ := hm x hx
    cases ls with
    | nil => cases hx
    | cons y l =>
      obtain ⟨ns', q', r'⟩ := hm y List.mem_cons_self
      rw [manyOf_row r' (hr ns' q') h1 h3]
      exact amt_isA r (hr ns q) h1 h3 fun k e => by cases e; rfl
  rw [hf]
  show Pr.ok (T.lst (ls.map tupT)) = _
  rw [pair_tup h]
theorem bad_at (X : Fx P w K mg base Z) {many k : Nat} {rows : List (List Int)} {bad : T} {behind : List T} (hr : ∀ ns ∈ rows, Amt many ns) (h1 : 1 ≤ many) (h3 : many ≤ 3) (hz : rows.length ≤ 8) (hk : k ≤ rows.length) (hb0 : k = 0 → isA bad none = false) (hb : isA bad (some many) = false) (kb : Kn2 Z bad) (kh : ∀ x ∈ behind, Kn2 Z x) (hbl : behind.length ≤ 100) : f_checked_amounts K Z [.lst ((rows.take k).map rowT ++ bad :: behind)] = .er (.own Z.a_BadAmounts [eBadAmounts.f] [.int (k : Nat)]) := by
  have hlk : ((rows.take k).map rowT).length = k := by rw [List.length_map, List.length_take]; omega
  rw [ca_ok X (.inl rfl) (fun x hx => by
    rcases List.mem_append.mp hx with hx | hx
    · obtain ⟨ns, _, rfl⟩ := List.mem_map.mp hx
      exact kn_row (.inr rfl)
    · rcases List.mem_cons.mp hx with rfl | hx
      · exact kb
      · exact kh x hx) (by rw [List.length_append, hlk, List.length_cons]; omega)]
  have hf : firstBad (manyOf ((rows.take k).map rowT ++ bad :: behind)) 0 ((rows.take k).map rowT ++ bad :: behind) = some k := by
    by_cases z : k = 0
    · subst z
      have e : manyOf ((rows.take 0).map rowT ++ bad :: behind) = none := by
        show (if isA bad none = true then _ else none) = none
        rw [if_neg (by rw [hb0 rfl]; exact Bool.false_ne_true)]
      rw [e]
      have := firstBad_app (many := none) (bad := bad) (rest := behind) (hb0 rfl) (l := []) (i := 0) (fun _ h => nomatch h)
      exact this
    · cases rows with
      | nil => simp at hk; exact absurd hk z
      | cons a l =>
        obtain ⟨j, rfl⟩ : ∃ j, k = j + 1 := ⟨k - 1, by omega⟩
        have e : manyOf (((a :: l).take (j + 1)).map rowT ++ bad :: behind) = some many := manyOf_row (x := rowT a) (.inr rfl) (hr a List.mem_cons_self) h1 h3
        rw [e]
        have := firstBad_app (many := some many) (bad := bad) (rest := behind) hb (l := ((a :: l).take (j + 1)).map rowT) (i := 0) (fun x hx => by
          obtain ⟨ns, hn, rfl⟩ := List.mem_map.mp hx
          exact amt_isA (.inr rfl) (hr ns (List.mem_of_mem_take hn)) h1 h3 fun k e => by cases e; rfl)
        rw [hlk, Nat.zero_add] at this
        exact this
  rw [hf]
end
end K1
set_option Elab.async false
set_option linter.all false
set_option maxRecDepth 100000
set_option maxHeartbeats 400000
namespace K1
open PySem PySem.Spec PyProof.Rows L2 Zy
section
variable {P : Program} {w : World} {K : PySem.W.Frag} {mg : Str → Option Value} {base : Heap} {Z : Ads}
theorem imDs_t (n0 : Nat) (sel : List Nat) : ∀ l : List T, imDs n0 sel (l.map D.t) = some (l.map D.t)
  | [] => rfl
  | x :: l => by
    show (imDs n0 sel (l.map D.t)).map (D.t x :: ·) = _
    rw [imDs_t n0 sel l]; rfl
theorem told_back (μ : Mu) (L : List (List Int)) : backM μ [] (.r 1) (toldM L) = .ok (.r (μ.length + 1)) (μ ++ [foundM L, .lst [.t (.str "told"), .r μ.length]]) := by
  have hf : imM μ.length [0, 1] (foundM L) = some (foundM L) := by
    show (imDs μ.length [0, 1] ((L.map rowT).map D.t)).map MO.lst = _
    rw [imDs_t]; rfl
  have hi : imp μ.length [0, 1] (toldM L) [0, 1] = some [foundM L, .lst [.t (.str "told"), .r μ.length]] := by
    show (imM μ.length [0, 1] (foundM L)).bind (fun m' => (imp μ.length [0, 1] (toldM L) [1]).map (m' :: ·)) = _
    rw [hf]; rfl
  unfold backM
  rw [if_pos ⟨Nat.zero_le _, rfl⟩]
  show (match imp μ.length [0, 1] (toldM L) [0, 1] with
    | some ms => Sr.ok (D.r (μ.length + 1)) (μ ++ ms)
    | none => .bad) = _
  rw [hi]
theorem told_call {t : T} {L : List (List Int)} (h : f__law_told_rows K Z [.t t] [] = .ok (.r 1) (toldM L)) (μ : Mu) : callM (f__law_told_rows K Z) [] 1 [.t t] μ = .ok (.r (μ.length + 1)) (μ ++ [foundM L, .lst [.t (.str "told"), .r μ.length]]) :=
  (callT (ts := [t]) rfl h).trans (told_back μ L)
theorem ref_call {t j : T} (h : f__law_told_rows K Z [.t t] [] = .ok (.r 0) [.lst [.t (.str "refused"), .t j]]) (μ : Mu) : callM (f__law_told_rows K Z) [] 1 [.t t] μ = .ok (.r μ.length) (μ ++ [.lst [.t (.str "refused"), .t j]]) :=
  (callT (ts := [t]) rfl h).trans (show backM μ [] (.r 0) [.lst [.t (.str "refused"), .t j]] = _ from back_new (m := .lst [.t (.str "refused"), .t j]) (j := 0) (μ' := [.lst [.t (.str "refused"), .t j]]) rfl rfl)
theorem dvs_t (f : D → Option T) (hf : ∀ x, f (.t x) = some x) : ∀ l : List T, dvs f (l.map D.t) = some l
  | [] => rfl
  | x :: l => by
    show (f (.t x)).bind (fun t => (dvs f (l.map D.t)).map (t :: ·)) = _
    rw [hf, dvs_t f hf l]; rfl
theorem dvw_lst {n : Nat} {μ : Mu} {i : Nat} {ds : List D} {l : List T} (h : μ[i]? = some (.lst ds)) (hz : ds.length ≤ 1000) (h2 : dvs (dvw n μ) ds = some l) : dvw (n + 1) μ (.r i) = some (.lst l) := by
  show (match μ[i]? with
    | some (.lst ds) => if ds.length ≤ sizeLine then (dvs (dvw n μ) ds).map T.lst else none
    | some (.tup ds) => if ds.length ≤ sizeLine then (dvs (dvw n μ) ds).map T.tup else none
    | some (.dk ks ds) => (dvs (dvw n μ) ds).map (T.dk ks)
    | _ => none) = _
  rw [h]
  show (if ds.length ≤ sizeLine then (dvs (dvw n μ) ds).map T.lst else none) = _
  rw [if_pos (le_size (by omega)), h2]; rfl
theorem dvw_t (n : Nat) (μ : Mu) (x : T) : dvw n μ (.t x) = some x := by cases n <;> rfl
theorem dvw_told {μ : Mu} {L : List (List Int)} {i j : Nat} (h1 : μ[i]? = some (foundM L)) (h2 : μ[j]? = some (.lst [.t (.str "told"), .r i])) (hz : L.length ≤ 1000) : dvw 4 μ (.r j) = some (.lst [.str "told", .lst (L.map rowT)]) := by
  refine dvw_lst h2 (by show 2 ≤ 1000; decide) ?_
  have h3 : dvw 3 μ (.r i) = some (.lst (L.map rowT)) := dvw_lst h1 (by simpa using hz) (dvs_t _ (dvw_t 2 μ) _)
  simp [dvs, dvw_t, h3]
theorem dvw_ref {μ : Mu} {a : Str} {t : T} {j : Nat} (h2 : μ[j]? = some (.lst [.t (.str a), .t t])) : dvw 4 μ (.r j) = some (.lst [.str a, t]) :=
  dvw_lst h2 (by show 2 ≤ 1000; decide) rfl
/-- a call with things of the store, on loan -/
theorem em_callL {f : List T → Pr T} {gs : Sa} {ρ : En} {μ μ1 : Mu} {k : Nat} {t u r : T} (hg : gs ρ μ = .ok [.r k, .t u] μ1) (hd : dvw 4 μ1 (.r k) = some t) (hf : f [t, u] = .ok r) (hl : leafT r = true) : mCallP f [] 2 gs ρ μ = .ok (.t r) μ1 := by
  rw [ap_mCallP, hg, sb_ok, if_pos (show [D.r k, D.t u].length + ([] : List T).length = 2 from rfl)]
  show (match dvs (dvw 4 μ1) [.r k, .t u] with
    | some ts => (match f (ts ++ []) with
      | .ok r => if leafT r = true then Sr.ok (D.t r) μ1 else .bad
      | _ => .bad)
    | none => .bad) = _
  have h2 : dvs (dvw 4 μ1) [.r k, .t u] = some [t, u] := by
    simp [dvs, dvw_t, hd]
  rw [h2]
  show (match f [t, u] with
      | .ok r => if leafT r = true then Sr.ok (D.t r) μ1 else .bad
      | _ => .bad) = _
  rw [hf]
  exact if_pos hl
theorem if_not {c : Sx} {a b : Ms} {ρ : En} {μ μ1 : Mu} (h : c ρ μ = .ok (.t (.bl true)) μ1) : msIf (mNotT (mTru c)) a b ρ μ = b ρ μ1 := by
  rw [ap_msIf, ap_mNotT, ap_mTru, h]; rfl
theorem if_or {c gb : Sx} {a b : Ms} {ρ : En} {μ μ1 μ2 : Mu} (h : c ρ μ = .ok (.t (.bl true)) μ1) (h2 : gb ρ μ1 = .ok (.t (.bl false)) μ2) : msIf (mOrT (mNotT (mTru c)) (mBl gb)) a b ρ μ = b ρ μ2 := by
  have e : mNotT (mTru c) ρ μ = .ok false μ1 := by rw [ap_mNotT, ap_mTru, h]; rfl
  have e2 : mBl gb ρ μ1 = .ok false μ2 := by rw [ap_mBl, h2]; rfl
  rw [ap_msIf, ap_mOrT, e, sb_ok]
  show liftM (mBl gb ρ μ1) ρ _ = _
  rw [e2]; rfl
theorem em_N {f : ON} {gs : Sa} {ρ : En} {μ μ1 : Mu} {ts : List T} {r : T} (hg : gs ρ μ = .ok (ts.map D.t) μ1) (hf : f ts = some r) : mN f gs ρ μ = .ok (.t r) μ1 := by
  rw [ap_mN, hg, sb_ok]
  have h : vws μ1 (ts.map D.t) = some ts := by
    clear hg hf
    induction ts with
    | nil => rfl
    | cons t l ih => show (vws μ1 (l.map D.t)).map (t :: ·) = _; rw [ih]; rfl
  rw [h]
  show Sr.of ((f ts).map D.t) μ1 = _
  rw [hf]; rfl
theorem oNe_str {a : Str} (h : PyData.strOk a = true) : oNe (.str a) (.str a) = some (.bl false) := by
  simp [oNe, dat, toP, SeqAt.shaped, PyData.canLay0, PyData.depth, PyData.eqv, h]
theorem same_rows (X : Fx P w K mg base Z) {n : Nat} {L : List (List Int)} (hz : L.length ≤ 1000) (hr : ∀ ns ∈ L, ns.length ≤ 1000) : f__law_same K Z (n + 3) [.lst (L.map rowT), .lst (L.map rowT)] = .ok (.bl true) :=
  same_seq X (.inl rfl) (by rw [List.length_map]; exact hz) fun x hx => by
    obtain ⟨ns, hn, rfl⟩ := List.mem_map.mp hx
    refine same_seq X (.inr rfl) (by rw [List.length_map]; exact hr ns hn) fun y hy => ?_
    obtain ⟨n, _, rfl⟩ := mem_map_iL hy
    exact same_of X rfl
theorem times_non {c : Int} (h0 : 0 ≤ c) (h1 : c < 2) : oTimesX (.lst [.non]) (.int c) = some (.lst (List.replicate c.toNat .non)) := by
  have : c = 0 ∨ c = 1 := by omega
  rcases this with rfl | rfl <;> rfl
theorem odd_knd {t : T} (h : t ∈ ([.non, .int 5, .bl true, .str "ab", .dk [] [], .dk [.inl 0] [.tup [.int 1]], .int (-1)] : List T)) : Knd Z t ∧ isL t = false := by
  simp only [List.mem_cons, List.not_mem_nil, or_false] at h
  rcases h with rfl | rfl | rfl | rfl | rfl | rfl | rfl <;> exact ⟨by constructor, rfl⟩
end
end K1
set_option Elab.async false
set_option linter.all false
set_option maxRecDepth 100000
set_option maxHeartbeats 400000
namespace K1
open PySem PySem.Spec PyProof.Rows L2 Zy
section
variable {P : Program} {w : World} {K : PySem.W.Frag} {mg : Str → Option Value} {base : Heap} {Z : Ads}
theorem rights_ok (X : Fx P w K mg base Z) {m many : Nat} {s : DS} (h1 : 1 ≤ many) (h3 : many ≤ 3) (h : DV (m + 100) s) : ∃ s' g, f__law_rows_right K Z [.r 0, .t (.int many)] [dst s] = .ok (.t (.bl true)) (dst s' :: g) ∧ DV m s' := by
  have h123 : many = 1 ∨ many = 2 ∨ many = 3 := by omega
  obtain ⟨v, s1, e1, v0, v1, d1⟩ := draw_call (K := K) (Z := Z) (n := 9) (m := m + 99) h (by decide) (by decide)
  obtain ⟨size, rfl⟩ : ∃ n : Nat, v = (n : Int) := ⟨v.toNat, by omega⟩
  obtain ⟨rows, s2, e2, hl, hr, d2⟩ := amounts_call (K := K) (Z := Z) (m := m + 35) (many := many) (size := size) h3 (by omega) (d1.mono (by omega))
  have hz : rows.length ≤ 8 := by omega
  obtain ⟨g, ls, s3, e3, hg, pr, d3⟩ := handed_call (K := K) (Z := Z) (m := m + 25) (rows := rows.map rowT) (fun x hx => by
    obtain ⟨ns, hn, rfl⟩ := List.mem_map.mp hx
    have := (hr ns hn).1
    exact ⟨iL ns, .inl rfl, by rw [List.length_map]; omega⟩) (by rw [List.length_map]; omega) (d2.mono (by rw [List.length_map]; omega))
  have pR := pair_rows pr
  obtain ⟨r, hrp, hso⟩ := repr_ok hg pR hr h3 hz
  have hca := given_ok X hg pR hr h1 h3 hz
  have hok := okS_rows h1 hr hz
  have hln : ∀ ns ∈ rows, ns.length ≤ 1000 := fun ns hn => by rw [(hr ns hn).1]; omega
  have hleast := least_ok (K := K) (Z := Z) hok hln
  rw [← least_eq hok] at hleast
  have htold := told_ok hca hok hln
  generalize hL : leastR mostI (sortC rows) [] = L at hleast htold
  have hLz : L.length ≤ 1000 := by
    have := leastR_len mostI (sortC rows) []
    rw [hL, (sortC_perm rows).length_eq] at this
    simp at this; omega
  have hLm : ∀ ns ∈ L, ns ∈ rows := fun ns hn => by
    obtain ⟨q, e, hs⟩ := leastR_sub (sortC rows) []
    rw [hL, List.nil_append] at e
    rw [e] at hn
    exact (sortC_perm rows).mem_iff.mp (hs.subset hn)
  have hsame : f__law_same K Z 8 [.lst [.str "told", .lst (L.map rowT)], .lst [.str "told", .lst (L.map rowT)]] = .ok (.bl true) :=
    same_two X (by decide +kernel) (same_rows X (n := 4) hLz fun ns hn => hln ns (hLm ns hn))
  let due : T := .lst (L.map rowT)
  let rs : T := .lst (rows.map rowT)
  let tM : Nat → MO := fun i => .lst [.t (.str "told"), .r i]
  have t1 : callM (f__law_told_rows K Z) [] 1 [.t g] [dst s3] = .ok (.r 2) [dst s3, foundM L, tM 1] := told_call htold [dst s3]
  let L7 := L ++ [[7, 7]]
  have t2 : callM (f__law_told_rows K Z) [] 1 [.t g] [dst s3, foundM L7, tM 1] = .ok (.r 4) [dst s3, foundM L7, tM 1, foundM L, tM 3] := told_call htold [dst s3, foundM L7, tM 1]
  let st : DS → Mu := fun s => [dst s, foundM L7, tM 1, foundM L, tM 3]
  -- at
  obtain ⟨v, s4, e4, v0, v1, d4⟩ := draw_call (K := K) (Z := Z) (n := rows.length + 1) (m := m + 24) d3 (by omega) (by omega)
  obtain ⟨k, rfl⟩ : ∃ n : Nat, v = (n : Int) := ⟨v.toNat, by omega⟩
  have hk : k ≤ rows.length := by omega
  -- other
  obtain ⟨os, s5, e5, oA, d5⟩ := amount_call (K := K) (Z := Z) (m := m + 10) (many := many % 3 + 1) (s := s4) (by omega) (d4.mono (by omega))
  have oAm : Amt (many % 3 + 1) os := ⟨oA.1, fun n hn => by have := oA.2 n hn; omega⟩
  let ρ9 : En := [some (.r 0), some (.t (.int many)), some (.t rs), some (.t g), some (.t (.str r)), some (.t due), some (.r 2), some (.t (.int k)), some (.t (rowT os)), none, none, none]
  obtain ⟨bad, s6, e6, hb0, hb, kb, d6⟩ : ∃ bad s6, (mIf (mAndT (mBl (m2 oGt (mVar 7) (mC (.int 0)))) (mBl (m2 oEq (mCall (f__law_draw K Z) [] 2 (mCons (mVar 0) (mCons (mC (.int 3)) (mNil)))) (mC (.int 0))))) (mVar 8) (mCall (f__law_odd K Z) [] 1 (mCons (mVar 0) (mNil)))) ρ9 (st s5) = .ok (.t bad) (st s6) ∧ (k = 0 → isA bad none = false) ∧ isA bad (some many) = false ∧ Kn2 Z bad ∧ DV (m + 5) s6 := by
    have odd : ∀ s5 : DS, DV (m + 9) s5 → ∃ bad s6, mCall (f__law_odd K Z) [] 1 (mCons (mVar 0) (mNil)) ρ9 (st s5) = .ok (.t bad) (st s6) ∧ (k = 0 → isA bad none = false) ∧ isA bad (some many) = false ∧ Kn2 Z bad ∧ DV (m + 5) s6 := fun s5 d5 => by
      obtain ⟨x, s6, e, hx, d⟩ := odd_call X (m := m + 5) (d5.mono (by omega))
      have ox := odd_of X hx
      exact ⟨x, s6, em_call (gs := mCons (mVar 0) mNil) rfl (e _), fun _ => ox.no, isA_some ox.no, ox.kn, d⟩
    by_cases z : k = 0
    · obtain ⟨x, s6, e, r⟩ := odd s5 (d5.mono (by omega))
      refine ⟨x, s6, ?_, r⟩
      have hgt : mBl (m2 oGt (mVar 7) (mC (.int 0))) ρ9 (st s5) = .ok false (st s5) := by
        subst z
        simp [ρ9, outM, ap_mP, ap_mC, ap_mVar, ap_m1, ap_m2, ap_mN, ap_mIx, ap_mNil, ap_mCons, ap_mLst, ap_mLstR, ap_mTup, ap_mTru, ap_mBl, ap_mAndT, ap_mOrT, ap_mNotT, ap_mIf, ap_mAndV, ap_mOrV, ap_mNotV, ap_moNone, ap_moSome, ap_mSl, ap_mgName, ap_mgNil, ap_mgCons, ap_mgTup, ap_mgSub, ap_mYes, ap_msNext, ap_msSeq, ap_msRet, ap_msRetF, ap_msRetN, ap_msIf, ap_msAsg, ap_msBrk, ap_msCnt, ap_msDrop, ap_msFz, ap_mCallP, ap_mErrF, ap_mFz, ap_mD1, ap_msBad, ap_msPar, mCall_eq, sb_ok, sb_er, sl_ok, sl_er, so_ok, sn_ok, vw_t, vws_nil, vws_cons, unT_nil, unT_cons, sq1, sq2, ln1, ln2, tr1, tr2, oEq_int, oI, blD, Zy.intD, frz, szB]
      rw [ap_mIf, ap_mAndT, hgt, sb_ok]
      exact e
    · obtain ⟨u, s6, e, u0, u1, d⟩ := draw_call (K := K) (Z := Z) (n := 3) (m := m + 9) d5 (by decide) (by decide)
      have hgt : mBl (m2 oGt (mVar 7) (mC (.int 0))) ρ9 (st s5) = .ok true (st s5) := by
        have : (0 : Int) < k := by omega
        simp [ρ9, outM, ap_mP, ap_mC, ap_mVar, ap_m1, ap_m2, ap_mN, ap_mIx, ap_mNil, ap_mCons, ap_mLst, ap_mLstR, ap_mTup, ap_mTru, ap_mBl, ap_mAndT, ap_mOrT, ap_mNotT, ap_mIf, ap_mAndV, ap_mOrV, ap_mNotV, ap_moNone, ap_moSome, ap_mSl, ap_mgName, ap_mgNil, ap_mgCons, ap_mgTup, ap_mgSub, ap_mYes, ap_msNext, ap_msSeq, ap_msRet, ap_msRetF, ap_msRetN, ap_msIf, ap_msAsg, ap_msBrk, ap_msCnt, ap_msDrop, ap_msFz, ap_mCallP, ap_mErrF, ap_mFz, ap_mD1, ap_msBad, ap_msPar, mCall_eq, sb_ok, sb_er, sl_ok, sl_er, so_ok, sn_ok, vw_t, vws_nil, vws_cons, unT_nil, unT_cons, sq1, sq2, ln1, ln2, tr1, tr2, oEq_int, oI, blD, Zy.intD, frz, szB, this]; omega
      have hd := em_call (gs := mCons (mVar 0) (mCons (mC (.int 3)) mNil)) (ρ := ρ9) (μ := st s5) rfl (e [foundM L7, tM 1, foundM L, tM 3])
      by_cases hu : u = 0
      · refine ⟨rowT os, s6, ?_, fun q => absurd q z, ?_, kn_row (.inr rfl), d.mono (by omega)⟩
        · have heq : mBl (m2 oEq (mCall (f__law_draw K Z) [] 2 (mCons (mVar 0) (mCons (mC (.int 3)) (mNil)))) (mC (.int 0))) ρ9 (st s5) = .ok true (st s6) := by
            rw [ap_mBl, em_2 (gb := mC (.int 0)) hd rfl rfl rfl (oEq_int u 0), hu]; rfl
          rw [ap_mIf, ap_mAndT, hgt, sb_ok, if_pos rfl, heq]; rfl
        · cases q : isA (rowT os) (some many) with
          | false => rfl
          | true =>
            obtain ⟨ms, q1, _, _, q4⟩ := isA_row q
            have h5 := q4 many rfl
            rcases q1 with q1 | q1
            · cases q1
            · have h6 : iL os = iL ms := by injection q1
              have h7 := congrArg List.length h6
              rw [List.length_map, List.length_map, oAm.1] at h7
              omega
      · obtain ⟨x, s7, e', r⟩ := odd s6 d
        refine ⟨x, s7, ?_, r⟩
        have heq : mBl (m2 oEq (mCall (f__law_draw K Z) [] 2 (mCons (mVar 0) (mCons (mC (.int 3)) (mNil)))) (mC (.int 0))) ρ9 (st s5) = .ok false (st s6) := by
          rw [ap_mBl, em_2 (gb := mC (.int 0)) hd rfl rfl rfl (oEq_int u 0), decide_eq_false hu]; rfl
        rw [ap_mIf, ap_mAndT, hgt, sb_ok, if_pos rfl, heq]
        exact e'
  -- behind
  obtain ⟨c, s7, e7, c0, c1, d7⟩ := draw_call (K := K) (Z := Z) (n := 2) (m := m + 4) d6 (by decide) (by decide)
  let behind : List T := (rows.drop k).map rowT ++ List.replicate c.toNat .non
  have hbl : behind.length ≤ 100 := by
    rw [List.length_append, List.length_map, List.length_drop, List.length_replicate]; omega
  have hbk : ∀ x ∈ behind, Kn2 Z x := fun x hx => by
    rcases List.mem_append.mp hx with hx | hx
    · obtain ⟨ns, _, rfl⟩ := List.mem_map.mp hx
      exact kn_row (.inr rfl)
    · rw [(List.mem_replicate.mp hx).2]; exact ⟨.non, fun l q => nomatch q⟩
  have hbad := bad_at X hr h1 h3 hz hk hb0 hb kb hbk hbl
  have hrf := told_er X hbad
  have t3 : callM (f__law_told_rows K Z) [] 1 [.t (.lst ((rows.take k).map rowT ++ bad :: behind))] (st s7) = .ok (.r 5) (st s7 ++ [.lst [.t (.str "refused"), .t (.int k)]]) := ref_call hrf (st s7)
  let st2 : DS → Mu := fun s => [dst s, foundM L7, tM 1, foundM L, tM 3, .lst [.t (.str "refused"), .t (.int k)]]
  have hsr : ∀ i : Int, f__law_same K Z 8 [.lst [.str "refused", .int i], .lst [.str "refused", .int i]] = .ok (.bl true) := fun i => same_two X (by decide +kernel) (same_of X rfl)
  let nones : List T := [.non, .int 5, .bl true, .str "ab", .dk [] [], .dk [.inl 0] [.tup [.int 1]], .int (-1)]
  obtain ⟨non, s8, e8, hn, d8⟩ := pick_call (K := K) (Z := Z) (m := m + 3) (t := .lst nones) (l := nones) d7 rfl rfl (by simp [nones]) (by show 7 < 2 ^ 62; decide)
  have on := odd_knd (Z := Z) hn
  have hrn := told_er X (ca_not X on.1 on.2)
  have t4 : callM (f__law_told_rows K Z) [] 1 [.t non] (st2 s8) = .ok (.r 6) (st2 s8 ++ [.lst [.t (.str "refused"), .t (.int 0)]]) := ref_call hrn (st2 s8)
  refine ⟨s8, [foundM L7, tM 1, foundM L, tM 3, .lst [.t (.str "refused"), .t (.int k)], .lst [.t (.str "refused"), .t (.int 0)]], ?_, d8.mono (by omega)⟩
  let ρ0 : En := [some (.r 0), some (.t (.int many)), none, none, none, none, none, none, none, none, none, none]
  let ρ1 : En := [some (.r 0), some (.t (.int many)), some (.t rs), none, none, none, none, none, none, none, none, none]
  let ρ2 : En := [some (.r 0), some (.t (.int many)), some (.t rs), some (.t g), none, none, none, none, none, none, none, none]
  let ρ3 : En := [some (.r 0), some (.t (.int many)), some (.t rs), some (.t g), some (.t (.str r)), some (.t due), none, none, none, none, none, none]
  let ρ4 : En := [some (.r 0), some (.t (.int many)), some (.t rs), some (.t g), some (.t (.str r)), some (.t due), some (.r 2), none, none, none, none, none]
  let ρ5 : En := [some (.r 0), some (.t (.int many)), some (.t rs), some (.t g), some (.t (.str r)), some (.t due), some (.r 2), some (.t (.int k)), none, none, none, none]
  let ρ10 : En := [some (.r 0), some (.t (.int many)), some (.t rs), some (.t g), some (.t (.str r)), some (.t due), some (.r 2), some (.t (.int k)), some (.t (rowT os)), some (.t bad), none, none]
  let ρ11 : En := [some (.r 0), some (.t (.int many)), some (.t rs), some (.t g), some (.t (.str r)), some (.t due), some (.r 2), some (.t (.int k)), some (.t (rowT os)), some (.t bad), some (.t (.lst behind)), none]
  let ρ12 : En := [some (.r 0), some (.t (.int many)), some (.t rs), some (.t g), some (.t (.str r)), some (.t due), some (.r 2), some (.t (.int k)), some (.t (rowT os)), some (.t bad), some (.t (.lst behind)), some (.t non)]
  have hdue : ∀ (ρ : En) (μ : Mu), ρ[5]? = some (some (.t due)) → mLst (mCons (mC (.str "told")) (mCons (mVar 5) mNil)) ρ μ = .ok (.t (.lst [.str "told", due])) μ := fun ρ μ hρ => by
    refine em_lst (l := [.str "told", due]) (em_cons rfl (em_cons (d := .t due) ?_ rfl)) (by show 2 ≤ 1000; decide)
    rw [ap_mVar, hρ]
  have hrepr : ∀ (ρ : En) (μ : Mu), ρ[3]? = some (some (.t g)) → mN oRepr (mCons (mVar 3) mNil) ρ μ = .ok (.t (.str r)) μ := fun ρ μ hρ => by
    refine em_N (ts := [g]) (em_cons (d := .t g) ?_ rfl) hrp
    rw [ap_mVar, hρ]
  refine runM_ev (ρ := ρ0) (o := some (.rt (.t (.bl true)) (st2 s8 ++ [.lst [.t (.str "refused"), .t (.int 0)]]))) rfl ?_ rfl
  unfold g__law_rows_right
  refine (sq_nx _ _ _ _ _ _ (?_ : _ = some (Mo.nx ρ1 [dst s2]))).trans ?_
  · have hd := em_call (gs := mCons (mVar 0) (mCons (mC (.int 9)) mNil)) (ρ := ρ0) (μ := [dst s]) rfl (e1 [])
    exact em_asg (em_call (em_cons (ga := mVar 0) rfl (em_cons (ga := mVar 1) rfl (em_cons hd (h2 := rfl) (gs := mNil) (l := [])))) (e2 []))
  refine (sq_nx _ _ _ _ _ _ (?_ : _ = some (Mo.nx ρ2 [dst s3]))).trans ?_
  · exact em_asg (em_call (gs := mCons (mVar 0) (mCons (mVar 2) mNil)) rfl (e3 []))
  refine (sq_nx _ _ _ _ _ _ (?_ : _ = some (Mo.nx ρ3 [dst s3]))).trans ?_
  · have hp := em_callP (f := f__law_least K Z) (n := 1) (gs := mCons (mVar 2) mNil) (ρ := ρ2) (μ := [dst s3]) (ts := [rs]) rfl rfl hleast
    have hc := em_cons (hrepr ρ2 [dst s3] rfl) (em_cons hp (h2 := rfl) (gs := mNil) (l := []))
    rw [ap_msPar, hc]; rfl
  refine (sq_nx _ _ _ _ _ _ (?_ : _ = some (Mo.nx ρ4 [dst s3, foundM L, tM 1]))).trans ?_
  · exact em_asg (em_call (gs := mCons (mVar 3) mNil) rfl t1)
  refine (sq_nx _ _ _ _ _ _ (?_ : _ = some (Mo.nx ρ4 [dst s3, foundM L, tM 1]))).trans ?_
  · have hs := em_callL (f := f__law_same K Z 8) (em_cons (ga := mVar 6) (ρ := ρ4) (μ := [dst s3, foundM L, tM 1]) rfl (em_cons (hdue ρ4 _ rfl) (h2 := rfl) (gs := mNil) (l := []))) (dvw_told (i := 1) (L := L) rfl rfl hLz) hsame rfl
    exact if_or hs (em_2 (gb := mVar 4) (hrepr ρ4 _ rfl) rfl rfl rfl (oNe_str hso))
  refine (sq_nx _ _ _ _ _ _ (?_ : _ = some (Mo.nx ρ4 [dst s3, foundM L7, tM 1]))).trans ?_
  · have hix : mIx (mVar 6) (mC (.int 1)) ρ4 [dst s3, foundM L, tM 1] = .ok (.r 1) [dst s3, foundM L, tM 1] := rfl
    have htp : mTup (mCons (mC (.int 7)) (mCons (mC (.int 7)) (mNil))) ρ4 [dst s3, foundM L, tM 1] = .ok (.t (rowT [7, 7])) [dst s3, foundM L, tM 1] := by simp [outM, ap_mP, ap_mC, ap_mVar, ap_m1, ap_m2, ap_mN, ap_mIx, ap_mNil, ap_mCons, ap_mLst, ap_mLstR, ap_mTup, ap_mTru, ap_mBl, ap_mAndT, ap_mOrT, ap_mNotT, ap_mIf, ap_mAndV, ap_mOrV, ap_mNotV, ap_moNone, ap_moSome, ap_mSl, ap_mgName, ap_mgNil, ap_mgCons, ap_mgTup, ap_mgSub, ap_mYes, ap_msNext, ap_msSeq, ap_msRet, ap_msRetF, ap_msRetN, ap_msIf, ap_msAsg, ap_msBrk, ap_msCnt, ap_msDrop, ap_msFz, ap_mCallP, ap_mErrF, ap_mFz, ap_mD1, ap_msBad, ap_msPar, mCall_eq, sb_ok, sb_er, sl_ok, sl_er, so_ok, sn_ok, vw_t, vws_nil, vws_cons, unT_nil, unT_cons, sq1, sq2, ln1, ln2, tr1, tr2, oEq_int, oI, blD, Zy.intD, frz, szB, sizeLine_eq]
    have ha := mApp_ev (i := 1) (l0 := (L.map rowT).map D.t) hix rfl htp (l := (L.map rowT).map D.t) rfl (by have := le_size (n := L.length + 1) (by omega); simp; omega)
    rw [ap_msDrop, ha, sl_ok]
    show some (Mo.nx ρ4 [dst s3, .lst ((L.map rowT).map D.t ++ [D.t (rowT [7, 7])]), tM 1]) = _
    show _ = some (Mo.nx ρ4 [dst s3, .lst (((L ++ [[7, 7]]).map rowT).map D.t), tM 1])
    rw [List.map_append, List.map_append]; rfl
  refine (sq_nx _ _ _ _ _ _ (?_ : _ = some (Mo.nx ρ4 (st s3)))).trans ?_
  · have hc := em_callK (perm := [0]) (m := 1) (n := 1) (gs := mCons (mVar 3) mNil) (ρ := ρ4) (μ := [dst s3, foundM L7, tM 1]) (ds := [.t g]) rfl rfl t2
    have hs := em_callL (f := f__law_same K Z 8) (em_cons hc (em_cons (hdue ρ4 _ rfl) (h2 := rfl) (gs := mNil) (l := []))) (dvw_told (i := 3) (L := L) rfl rfl hLz) hsame rfl
    exact if_not hs
  refine (sq_nx _ _ _ _ _ _ (?_ : _ = some (Mo.nx ρ5 (st s4)))).trans ?_
  · have hO : oLen [rs] = some (.int rows.length) := by show some (T.int ((rows.map rowT).length : Nat)) = _; rw [List.length_map]
    have ho := em_N (gs := mCons (mVar 2) mNil) (ρ := ρ4) (μ := st s3) (ts := [rs]) rfl hO
    have hp := em_2 (f := oPlus) (gb := mC (.int 1)) ho rfl rfl rfl (r := .int (rows.length + 1)) rfl
    exact em_asg (em_call (em_cons (ga := mVar 0) rfl (em_cons hp (h2 := rfl) (gs := mNil) (l := []))) (e4 [foundM L7, tM 1, foundM L, tM 3]))
  refine (sq_nx _ _ _ _ _ _ (?_ : _ = some (Mo.nx ρ9 (st s5)))).trans ?_
  · have hd : CDivW (many : Int) 3 := divW (by decide) (by decide)
    have hm : m2 oMod (mVar 1) (mC (.int 3)) ρ5 (st s4) = .ok (.t (.int ((many : Int) % 3))) (st s4) := by simp [ρ5, outM, ap_mP, ap_mC, ap_mVar, ap_m1, ap_m2, ap_mN, ap_mIx, ap_mNil, ap_mCons, ap_mLst, ap_mLstR, ap_mTup, ap_mTru, ap_mBl, ap_mAndT, ap_mOrT, ap_mNotT, ap_mIf, ap_mAndV, ap_mOrV, ap_mNotV, ap_moNone, ap_moSome, ap_mSl, ap_mgName, ap_mgNil, ap_mgCons, ap_mgTup, ap_mgSub, ap_mYes, ap_msNext, ap_msSeq, ap_msRet, ap_msRetF, ap_msRetN, ap_msIf, ap_msAsg, ap_msBrk, ap_msCnt, ap_msDrop, ap_msFz, ap_mCallP, ap_mErrF, ap_mFz, ap_mD1, ap_msBad, ap_msPar, mCall_eq, sb_ok, sb_er, sl_ok, sl_er, so_ok, sn_ok, vw_t, vws_nil, vws_cons, unT_nil, unT_cons, sq1, sq2, ln1, ln2, tr1, tr2, oEq_int, oI, blD, Zy.intD, frz, szB, oMod, hd]
    have hp := em_2 (f := oPlus) (gb := mC (.int 1)) hm rfl rfl rfl (r := .int ((many % 3 + 1 : Nat) : Int)) (by show some (T.int ((many : Int) % 3 + 1)) = _; congr 2)
    exact em_asg (em_call (em_cons (ga := mVar 0) rfl (em_cons hp (h2 := rfl) (gs := mNil) (l := []))) (e5 [foundM L7, tM 1, foundM L, tM 3]))
  refine (sq_nx _ _ _ _ _ _ (?_ : _ = some (Mo.nx ρ10 (st s6)))).trans ?_
  · exact em_asg e6
  refine (sq_nx _ _ _ _ _ _ (?_ : _ = some (Mo.nx ρ11 (st s7)))).trans ?_
  · have k1 : slT (some (k : Int)) none rs = some (.lst ((rows.map rowT).drop k)) := slice_from _ k (by rw [List.length_map]; exact hk) (by rw [List.length_map]; omega)
    rw [← List.map_drop] at k1
    have r1 := em_sl (ga := mVar 2) (gl := moSome (mVar 7)) (gh := moNone) (ρ := ρ10) (μ := st s6) rfl rfl rfl k1
    have hn1 : mLst (mCons (mC (.non)) mNil) ρ10 (st s6) = .ok (.t (.lst [.non])) (st s6) := em_lst rfl (by decide)
    have hd := em_call (gs := mCons (mVar 0) (mCons (mC (.int 2)) mNil)) (ρ := ρ10) (μ := st s6) rfl (e7 [foundM L7, tM 1, foundM L, tM 3])
    have r2 := em_2 hn1 hd rfl rfl (times_non c0 c1)
    exact em_asg (em_2 r1 r2 rfl rfl (oPlus_l (by rw [List.length_map, List.length_drop, List.length_replicate]; omega)))
  refine (sq_nx _ _ _ _ _ _ (?_ : _ = some (Mo.nx ρ11 (st2 s7)))).trans ?_
  · have k1 : slT none (some (k : Int)) rs = some (.lst ((rows.map rowT).take k)) := slice_to _ k (by rw [List.length_map]; exact hk) (by rw [List.length_map]; omega)
    rw [← List.map_take] at k1
    have r1 := em_sl (ga := mVar 2) (gl := moNone) (gh := moSome (mVar 7)) (ρ := ρ11) (μ := st s7) rfl rfl rfl k1
    have hb1 : mLst (mCons (mVar 9) mNil) ρ11 (st s7) = .ok (.t (.lst [bad])) (st s7) := em_lst rfl (by show 1 ≤ 1000; decide)
    have r2 := em_2 r1 hb1 rfl rfl (oPlus_l (l := (rows.take k).map rowT) (m := [bad]) (by rw [List.length_map, List.length_take]; simp; omega))
    have r3 := em_2 (gb := mVar 10) r2 rfl rfl rfl (oPlus_l (l := (rows.take k).map rowT ++ [bad]) (m := behind) (by rw [List.length_append, List.length_map, List.length_take]; simp; omega))
    rw [List.append_assoc] at r3
    have hc := em_call (em_cons r3 (h2 := rfl) (gs := mNil) (l := [])) t3
    have hl2 : mLst (mCons (mC (.str "refused")) (mCons (mVar 7) mNil)) ρ11 (st2 s7) = .ok (.t (.lst [.str "refused", .int k])) (st2 s7) := em_lst rfl (by show 2 ≤ 1000; decide)
    have hs := em_callL (f := f__law_same K Z 8) (em_cons hc (em_cons hl2 (h2 := rfl) (gs := mNil) (l := []))) (dvw_ref rfl) (hsr k) rfl
    exact if_not hs
  refine (sq_nx _ _ _ _ _ _ (?_ : _ = some (Mo.nx ρ12 (st2 s8)))).trans ?_
  · have hns : mLst (mCons (mC (.non)) (mCons (mC (.int 5)) (mCons (mC (.bl true)) (mCons (mC (.str "ab")) (mCons (mC (.dk [] [])) (mCons (mD1 (.inl 0) (mTup (mCons (mC (.int 1)) (mNil)))) (mCons (m1 oNeg (mC (.int 1))) (mNil)))))))) ρ11 (st2 s7) = .ok (.t (.lst nones)) (st2 s7) := by
      simp [outM, ap_mP, ap_mC, ap_mVar, ap_m1, ap_m2, ap_mN, ap_mIx, ap_mNil, ap_mCons, ap_mLst, ap_mLstR, ap_mTup, ap_mTru, ap_mBl, ap_mAndT, ap_mOrT, ap_mNotT, ap_mIf, ap_mAndV, ap_mOrV, ap_mNotV, ap_moNone, ap_moSome, ap_mSl, ap_mgName, ap_mgNil, ap_mgCons, ap_mgTup, ap_mgSub, ap_mYes, ap_msNext, ap_msSeq, ap_msRet, ap_msRetF, ap_msRetN, ap_msIf, ap_msAsg, ap_msBrk, ap_msCnt, ap_msDrop, ap_msFz, ap_mCallP, ap_mErrF, ap_mFz, ap_mD1, ap_msBad, ap_msPar, mCall_eq, sb_ok, sb_er, sl_ok, sl_er, so_ok, sn_ok, vw_t, vws_nil, vws_cons, unT_nil, unT_cons, sq1, sq2, ln1, ln2, tr1, tr2, oEq_int, oI, blD, Zy.intD, frz, szB, ap_mD1, ap_m1, oNeg, sizeLine_eq, nones]
    exact em_asg (em_call (em_cons (ga := mVar 0) rfl (em_cons hns (h2 := rfl) (gs := mNil) (l := []))) (e8 [foundM L7, tM 1, foundM L, tM 3, .lst [.t (.str "refused"), .t (.int k)]]))
  · have hc := em_call (gs := mCons (mVar 11) mNil) (ρ := ρ12) (μ := st2 s8) rfl t4
    have hl2 : mLst (mCons (mC (.str "refused")) (mCons (mC (.int 0)) mNil)) ρ12 (st2 s8 ++ [.lst [.t (.str "refused"), .t (.int 0)]]) = .ok (.t (.lst [.str "refused", .int 0])) (st2 s8 ++ [.lst [.t (.str "refused"), .t (.int 0)]]) := em_lst rfl (by show 2 ≤ 1000; decide)
    have hs := em_callL (f := f__law_same K Z 8) (em_cons hc (em_cons hl2 (h2 := rfl) (gs := mNil) (l := []))) (dvw_ref rfl) (hsr 0) rfl
    rw [ap_msRet, hs]; rfl
end
end K1
set_option Elab.async false
set_option linter.all false
set_option maxRecDepth 100000
set_option maxHeartbeats 400000
namespace K1
open PySem PySem.Spec PyProof.Rows L2 Zy
section
variable {P : Program} {w : World} {K : PySem.W.Frag} {mg : Str → Option Value} {base : Heap} {Z : Ads}
noncomputable def innerL (K : PySem.W.Frag) (Z : Ads) : Ms := ((msIf (mOrT (mNotT (mTru (mCall (f__law_rows_right K Z) [] 2 (mCons (mVar 2) (mCons (mVar 3) (mNil)))))) (mNotT (mTru (mCall (f__law_costs_right K Z) [] 2 (mCons (mVar 2) (mCons (mVar 3) (mNil))))))) ((msRet (mC (.bl false)))) (msNext)))
noncomputable def turnL (K : PySem.W.Frag) (Z : Ads) : Ms := ((msSeq (msAsg (mCall (f__law_source K Z) [] 2 (mCons (mVar 0) (mCons (mVar 1) (mNil)))) (mgName 2)) (msSeq (msAsg (m2 oPlus (mC (.int 1)) (mCall (f__law_draw K Z) [] 2 (mCons (mVar 2) (mCons (mC (.int 3)) (mNil))))) (mgName 3)) (msFor (miO ints1 (mCons (mC (.int 2)) (mNil))) (mgName 4) (innerL K Z)))))
theorem get_last (μ : Mu) (m : MO) : (μ ++ [m])[μ.length]? = some m := by simp
theorem set_last (μ : Mu) (m m' : MO) : (μ ++ [m]).set μ.length m' = μ ++ [m'] := by
  rw [List.set_append_right _ _ (Nat.le_refl _), Nat.sub_self]; rfl
/-- a call with the last thing of the store -/
theorem call_last {f : Fm} {gs : Sa} {ρ : En} {μ : Mu} {n : Nat} {ts : List T} {m m' : MO} {g : Mu} {r : T} (hg : gs ρ (μ ++ [m]) = .ok (.r μ.length :: ts.map D.t) (μ ++ [m])) (hp : purM m = true) (hp' : purM m' = true) (hn : ts.length + 1 = n) (hf : f (.r 0 :: ts.map D.t) [m] = .ok (.t r) (m' :: g)) : mCall f [] n gs ρ (μ ++ [m]) = .ok (.t r) (μ ++ [m']) := by
  rw [call1 hg (get_last μ m) hp hp' hn hf, set_last]
theorem if_or2 {c1 c2 : Sx} {a b : Ms} {ρ : En} {μ μ1 μ2 : Mu} (h : c1 ρ μ = .ok (.t (.bl true)) μ1) (h2 : c2 ρ μ1 = .ok (.t (.bl true)) μ2) : msIf (mOrT (mNotT (mTru c1)) (mNotT (mTru c2))) a b ρ μ = b ρ μ2 := by
  have e : mNotT (mTru c1) ρ μ = .ok false μ1 := by rw [ap_mNotT, ap_mTru, h]; rfl
  have e2 : mNotT (mTru c2) ρ μ1 = .ok false μ2 := by rw [ap_mNotT, ap_mTru, h2]; rfl
  rw [ap_msIf, ap_mOrT, e, sb_ok]
  show liftM (mNotT (mTru c2) ρ μ1) ρ _ = _
  rw [e2]; rfl
theorem inner_ok (X : Fx P w K mg base Z) {t : T} {o1 : Option D} {many : Nat} (h1 : 1 ≤ many) (h3 : many ≤ 3) (μ : Mu) : ∀ (l : List T) (m : Nat) (s : DS) (o4 : Option D), DV (m + 130 * l.length) s → ∃ s' o4', forM' none (mgName 4) (innerL K Z) (l.map D.t) [some (.t t), o1, some (.r μ.length), some (.t (.int many)), o4] (μ ++ [dst s]) = some (.nx [some (.t t), o1, some (.r μ.length), some (.t (.int many)), o4'] (μ ++ [dst s']))
  | [], m, s, o4, h => ⟨s, o4, by rw [List.map_nil]; unfold forM'; rw [if_pos (show ckP none _ from trivial)]⟩
  | x :: l, m, s, o4, h => by
    rw [List.length_cons] at h
    obtain ⟨s1, g1, e1, d1⟩ := rights_ok X (m := m + 130 * l.length + 30) h1 h3 (h.mono (by omega))
    obtain ⟨s2, g2, e2, d2⟩ := costs_ok X (m := m + 130 * l.length) h1 h3 d1
    obtain ⟨s3, o4', e3⟩ := inner_ok X h1 h3 μ l m s2 (some (.t x)) d2
    refine ⟨s3, o4', ?_⟩
    rw [List.map_cons]
    unfold forM'
    rw [if_pos (show ckP none _ from trivial)]
    have c1 := call_last (f := f__law_rows_right K Z) (gs := mCons (mVar 2) (mCons (mVar 3) (mNil))) (ρ := [some (.t t), o1, some (.r μ.length), some (.t (.int many)), some (.t x)]) (μ := μ) (n := 2) (ts := [.int many]) rfl rfl rfl rfl e1
    have c2 := call_last (f := f__law_costs_right K Z) (gs := mCons (mVar 2) (mCons (mVar 3) (mNil))) (ρ := [some (.t t), o1, some (.r μ.length), some (.t (.int many)), some (.t x)]) (μ := μ) (n := 2) (ts := [.int many]) rfl rfl rfl rfl e2
    have hB : innerL K Z [some (.t t), o1, some (.r μ.length), some (.t (.int many)), some (.t x)] (μ ++ [dst s]) = some (.nx [some (.t t), o1, some (.r μ.length), some (.t (.int many)), some (.t x)] (μ ++ [dst s2])) := if_or2 c1 c2
    show (match innerL K Z [some (.t t), o1, some (.r μ.length), some (.t (.int many)), some (.t x)] (μ ++ [dst s]) with
      | some (.nx ρ2 μ2) => forM' none (mgName 4) (innerL K Z) (l.map D.t) ρ2 μ2
      | some (.ct ρ2 μ2) => forM' none (mgName 4) (innerL K Z) (l.map D.t) ρ2 μ2
      | some (.bk ρ2 μ2) => some (.nx ρ2 μ2)
      | o => o) = _
    rw [hB]
    exact e3
theorem turn_ok (X : Fx P w K mg base Z) {ns : List Int} {place : Nat} (hz : ns.length ≤ 1000) (hp : place ≤ 1000) (o2 o3 o4 : Option D) (μ : Mu) : ∃ o2' o3' o4' μ', turnL K Z [some (.t (.scr (iL ns))), some (.t (.int place)), o2, o3, o4] μ = some (.nx [some (.t (.scr (iL ns))), some (.t (.int place)), o2', o3', o4'] μ') := by
  obtain ⟨s, e, hs⟩ := source_ok (K := K) (Z := Z) ns place hz hp
  have d := hs 1000 (by decide)
  obtain ⟨v, s1, e1, v0, v1, d1⟩ := draw_ok (K := K) (Z := Z) (n := 3) (m := 999) d (by decide) (by decide)
  obtain ⟨many, hm⟩ : ∃ n : Nat, 1 + v = (n : Int) := ⟨(1 + v).toNat, by omega⟩
  obtain ⟨s2, o4', e2⟩ := inner_ok X (t := .scr (iL ns)) (o1 := some (.t (.int place))) (many := many) (by omega) (by omega) μ ((List.range 2).map fun i => T.int (i : Nat)) 10 s1 o4 (d1.mono (by simp))
  refine ⟨some (.r μ.length), some (.t (.int many)), o4', μ ++ [dst s2], ?_⟩
  have c1 : callM (f__law_source K Z) [] 2 [.t (.scr (iL ns)), .t (.int place)] μ = .ok (.r μ.length) (μ ++ [dst s]) := (callT (ts := [.scr (iL ns), .int place]) rfl e).trans (back_new (m := dst s) (j := 0) (μ' := [dst s]) rfl rfl)
  have a1 : msAsg (mCall (f__law_source K Z) [] 2 (mCons (mVar 0) (mCons (mVar 1) (mNil)))) (mgName 2) [some (.t (.scr (iL ns))), some (.t (.int place)), o2, o3, o4] μ = some (.nx [some (.t (.scr (iL ns))), some (.t (.int place)), some (.r μ.length), o3, o4] (μ ++ [dst s])) :=
    em_asg (em_call (gs := mCons (mVar 0) (mCons (mVar 1) mNil)) rfl c1)
  have c2 := call_last (f := f__law_draw K Z) (gs := mCons (mVar 2) (mCons (mC (.int 3)) (mNil))) (ρ := [some (.t (.scr (iL ns))), some (.t (.int place)), some (.r μ.length), o3, o4]) (μ := μ) (n := 2) (ts := [.int 3]) (m := dst s) rfl rfl rfl rfl e1
  have c3 := em_2 (f := oPlus) (ga := mC (.int 1)) (d := .t (.int 1)) rfl c2 rfl rfl (r := .int many) (by show some (T.int (1 + v)) = _; rw [hm])
  have a2 : msAsg (m2 oPlus (mC (.int 1)) (mCall (f__law_draw K Z) [] 2 (mCons (mVar 2) (mCons (mC (.int 3)) (mNil))))) (mgName 3) [some (.t (.scr (iL ns))), some (.t (.int place)), some (.r μ.length), o3, o4] (μ ++ [dst s]) = some (.nx [some (.t (.scr (iL ns))), some (.t (.int place)), some (.r μ.length), some (.t (.int many)), o4] (μ ++ [dst s1])) :=
    em_asg c3
  have hi := miO_ev (gs := mCons (mC (.int 2)) mNil) (ρ := [some (.t (.scr (iL ns))), some (.t (.int place)), some (.r μ.length), some (.t (.int many)), o4]) (μ := μ ++ [dst s1]) (ts := [.int (2 : Nat)]) rfl (ints1_n (n := 2) (by decide))
  unfold turnL
  rw [sq_nx _ _ _ _ _ _ a1, sq_nx _ _ _ _ _ _ a2, ap_msFor, hi, sl_ok]
  exact e2
theorem turns_ok (X : Fx P w K mg base Z) {ns : List Int} (hz : ns.length ≤ 1000) : ∀ (l : List Nat), (∀ n ∈ l, n ≤ 1000) → ∀ (o1 o2 o3 o4 : Option D) (μ : Mu), ∃ o1' o2' o3' o4' μ', forM' none (mgName 1) (turnL K Z) ((l.map fun i => T.int (i : Nat)).map D.t) [some (.t (.scr (iL ns))), o1, o2, o3, o4] μ = some (.nx [some (.t (.scr (iL ns))), o1', o2', o3', o4'] μ')
  | [], _, o1, o2, o3, o4, μ => ⟨o1, o2, o3, o4, μ, by rw [List.map_nil, List.map_nil]; unfold forM'; rw [if_pos (show ckP none _ from trivial)]⟩
  | n :: l, hl, o1, o2, o3, o4, μ => by
    obtain ⟨p2, p3, p4, μ1, e⟩ := turn_ok X (place := n) hz (hl n List.mem_cons_self) o2 o3 o4 μ
    obtain ⟨q1, q2, q3, q4, μ2, e2⟩ := turns_ok X hz l (fun m hm => hl m (List.mem_cons_of_mem _ hm)) (some (.t (.int n))) p2 p3 p4 μ1
    refine ⟨q1, q2, q3, q4, μ2, ?_⟩
    rw [List.map_cons, List.map_cons]
    unfold forM'
    rw [if_pos (show ckP none _ from trivial)]
    show (match turnL K Z [some (.t (.scr (iL ns))), some (.t (.int n)), o2, o3, o4] μ with
      | some (.nx ρ2 μ2) => forM' none (mgName 1) (turnL K Z) ((l.map fun i => T.int (i : Nat)).map D.t) ρ2 μ2
      | some (.ct ρ2 μ2) => forM' none (mgName 1) (turnL K Z) ((l.map fun i => T.int (i : Nat)).map D.t) ρ2 μ2
      | some (.bk ρ2 μ2) => some (.nx ρ2 μ2)
      | o => o) = _
    rw [e]
    exact e2
/-- the law says True -/
theorem law_ok (X : Fx P w K mg base Z) (ns : List Int) (hz : ns.length ≤ 1000) : ∃ μ, f_law K Z [.t (.scr (iL ns))] [] = .ok (.t (.bl true)) μ := by
  have hO : oLen [.scr (iL ns)] = some (.int ns.length) := by show some (T.int ((iL ns).length : Nat)) = _; simp
  obtain ⟨n, hn, hn2⟩ : ∃ n : Nat, (5 + min (ns.length : Int) 3) = (n : Int) ∧ n ≤ 1000 := ⟨(5 + min (ns.length : Int) 3).toNat, by omega, by omega⟩
  obtain ⟨o1, o2, o3, o4, μ, e⟩ := turns_ok X hz (List.range n) (fun m hm => by have := List.mem_range.mp hm; omega) none none none none []
  refine ⟨μ, runM_ev (ρ := [some (.t (.scr (iL ns))), none, none, none, none]) (o := some (.rt (.t (.bl true)) μ)) rfl ?_ rfl⟩
  have h1 := em_N (f := oLen) (gs := mCons (mVar 0) mNil) (ρ := [some (.t (.scr (iL ns))), none, none, none, none]) (μ := []) (ts := [.scr (iL ns)]) rfl hO
  have h2 := em_N (f := oMin2) (gs := mCons (mN oLen (mCons (mVar 0) mNil)) (mCons (mC (.int 3)) mNil)) (ρ := [some (.t (.scr (iL ns))), none, none, none, none]) (μ := []) (ts := [.int ns.length, .int 3]) (em_cons h1 rfl) (r := .int (min (ns.length : Int) 3)) (by
    simp [oMin2]; omega)
  have h3 := em_2 (f := oPlus) (ga := mC (.int 5)) (d := .t (.int 5)) rfl h2 rfl rfl (r := .int (n : Nat)) (by show some (T.int (5 + min (ns.length : Int) 3)) = _; rw [hn])
  have hi := miO_ev (f := Zy.ints1) (ts := [.int n]) (em_cons h3 (h2 := rfl) (gs := mNil) (l := [])) (ints1_n (n := n) (by omega))
  have hF : msFor (miO ints1 (mCons (m2 oPlus (mC (.int 5)) (mN oMin2 (mCons (mN oLen (mCons (mVar 0) (mNil))) (mCons (mC (.int 3)) (mNil))))) (mNil))) (mgName 1) (turnL K Z) [some (.t (.scr (iL ns))), none, none, none, none] [] = some (.nx [some (.t (.scr (iL ns))), o1, o2, o3, o4] μ) := by
    rw [ap_msFor, hi, sl_ok]; exact e
  show msSeq (msFor _ (mgName 1) (turnL K Z)) (msRet (mC (.bl true))) _ _ = _
  rw [sq_nx _ _ _ _ _ _ hF]; rfl
end
end K1
set_option Elab.async false
set_option linter.all false
set_option maxRecDepth 100000
set_option maxHeartbeats 1000000
/-! ZY: the head's facts with some more; the law's start. -/
namespace Zy
open PySem PySem.Spec PyProof.Rows L2
abbrev AlY : Type := AlX × Bool
def obsKY (fa : List He.Fa) (fn : List He.DefD) (pf : Str) (ds : List EcD) (xb : PySem.W.Frag → Bool) (K : PySem.W.Frag) : AlY := (obsK fa fn pf ds K, xb K)
def obsY (n : Nat) (fa : List He.Fa) (fn : List He.DefD) (pf : Str) (ds : List EcD) (xb : PySem.W.Frag → Bool) (g : Addr → Option Obj) : AlY := obsKY fa fn pf ds xb (fragX g n ds)
def hookY (n : Nat) (fa : List He.Fa) (fn : List He.DefD) (pf : Str) (ds : List EcD) (xb : PySem.W.Frag → Bool) : PySem.W.Hook where
  α := AlY
  obs := fun s => obsY n fa fn pf ds xb s.heap.get?
  val := fun _ => (valX fn ds, true)
  says := fun _ h => ∃ K : PySem.W.Frag, K.In h ∧ SaysX fa fn pf ds K ∧ xb K = true
  of := fun w s h => ⟨_, He.frG_in, congrArg (fun x : AlY => x.1) h, congrArg (fun x : AlY => x.2) h⟩
  keeps := fun w h h' ⟨K, X, c⟩ k => ⟨K, X.keeps k, c⟩
theorem obsY_eq {n : Nat} {fa : List He.Fa} {fn : List He.DefD} {pf : Str} {ds : List EcD} {xb : PySem.W.Frag → Bool} {g : Addr → Option Obj} {s : Shared} (h : ∀ a, g a = s.heap.get? a) : obsY n fa fn pf ds xb g = (hookY n fa fn pf ds xb).obs s := by
  have e : g = s.heap.get? := funext h
  rw [e]; rfl
def eqF1 (a : Option Bool) : Bool := decide (a = some false)
/-- of a class: its instances are things, none of the built-in kinds -/
def insB (K : PySem.W.Frag) (C : Addr) : Bool :=
  He.eqO (PySem.W.findIn K (.ref C) "__class__") (some (some (.builtin "object.__class__"))) && (He.eqO (PySem.W.specialIn K (.builtin "object.__class__") "__get__") (some (some (.builtin "getset_descriptor.__get__"))) && (eqB1 (PySem.W.takesIn K (.builtin "object.__class__")) && eqB1 (PySem.W.mroIn K C (.type "object"))))
theorem insB_ok {K : PySem.W.Frag} {C : Addr} (hc : Cls K C) (h : insB K C = true) : InsF K C := by
  obtain ⟨h1, h⟩ := and2 h
  obtain ⟨h2, h⟩ := and2 h
  obtain ⟨h3, h4⟩ := and2 h
  exact ⟨hc, He.eqO_ok h1, He.eqO_ok h2, of_decide_eq_true h3, of_decide_eq_true h4⟩
def insKB (K : PySem.W.Frag) (C : Addr) : Bool := ["int", "bool", "str", "list", "tuple", "dict", "set"].all fun n => eqF1 (PySem.W.kitOne K (.ref C) (.type n))
theorem insKB_ok {K : PySem.W.Frag} {C : Addr} (h : insKB K C = true) (n : String) (hn : n ∈ ["int", "bool", "str", "list", "tuple", "dict", "set"]) : PySem.W.kitOne K (.ref C) (.type n) = some false :=
  of_decide_eq_true (List.all_eq_true.mp h n hn)
theorem repL_ints {K : PySem.W.Frag} {F : Fz} {H : Hp} : ∀ ns : List Int, RepL K F H (ns.map T.int) (ns.map V.int)
  | [] => .nil
  | n :: ns => .cons (show Rep K F H (.int n) (.int n) from rfl) (repL_ints ns)
/-- the law's start: the script is a list that is only read -/
theorem start_spZ {K : PySem.W.Frag} {f : Fm} {H : Hp} {a : Addr} {ns : List Int} (h : ∃ μ, f [.t (.scr (ns.map T.int))] [] = .ok (.t (.bl true)) μ) (hz : ns.length ≤ sizeLine) (S : SqL K H a (ns.map V.int)) : spZ K 1 (mdE f) [.ref a] H (fun v _ => v = .bl true) fun _ _ _ => False := by
  have key : ∀ F : Fz, RdL K F H a (ns.map V.int) → (∀ b, F b → H b ≠ none) → spZ K 1 (mdE f) [.ref a] H (fun v _ => v = .bl true) fun _ _ _ => False := by
    intro F r hF
    obtain ⟨μ, h⟩ := h
    refine ⟨F, [], [.t (.scr (ns.map T.int))], [], fun d _ => d = .t (.bl true), fun _ _ => False, rfl, ⟨rfl, List.nodup_nil, fun i a m h1 h2 => (by simp at h1), hF, fun b hb => (by cases hb)⟩, ?_, ?_, fun e μ' hE => hE.elim, ?_⟩
    · exact ⟨.ref a, [], rfl, ⟨by rw [List.length_map]; exact hz, a, ns.map V.int, rfl, r, repL_ints ns⟩, rfl⟩
    · intro d μ' hd v H' F' β' _ _ hr
      subst hd
      exact hr
    · show (f [.t (.scr (ns.map T.int))] []).run _ _
      rw [h]; rfl
  rcases S with S | S
  · refine key (fun b => b = a) (.inl ⟨rfl, S⟩) fun b hb => ?_
    subst hb
    intro hn
    rcases S with S | S
    · rw [hn] at S; cases S
    · obtain ⟨o, S⟩ := S
      rw [hn] at S; cases S
  · exact key (fun _ => False) (.inr S) fun _ hb => hb.elim
end Zy
set_option Elab.async false
set_option linter.all false
set_option maxRecDepth 100000
set_option maxHeartbeats 0
namespace K1
open PySem PySem.Spec PyProof.Rows L2 Zy
def loose : List PySem.Str := (["_wall", "LETTERS", "FIGURES", "is_list", "is_whole", "is_natural", "is_counting", "as_tuples", "is_amount", "are_prices", "is_at_most", "dot", "PlanError", "BadSorts", "BadRule", "BadAmount"] : List PySem.Str) ++ (["BadAmounts", "BadPrices", "checked_amounts", "least_of", "least_rows", "cost", "HOWS", "SIGNS", "is_thing", "are_sorts", "are_hows", "is_part", "are_parts", "is_right_rule", "check_rules", "Program"] : List PySem.Str) ++ (["_law_source", "_law_draw", "_law_pick", "_law_same", "_law_number", "_law_amount", "_law_amounts", "_law_handed", "_law_dot", "_law_most", "_law_least", "_law_odd", "_law_told_rows", "_law_told_cost", "_law_prices", "_law_rows_right"] : List PySem.Str) ++ (["_law_costs_right"] : List PySem.Str)
theorem tBadSorts : EcT eBadSorts := ⟨by decide, by decide, by decide, by decide, fun doc pm an ct qual cc ca s x v => BindsTo.of_eq (by first | rfl | with_unfolding_all rfl), fun env => ⟨_, rfl⟩⟩
theorem tBadRule : EcT eBadRule := ⟨by decide, by decide, by decide, by decide, fun doc pm an ct qual cc ca s x v => BindsTo.of_eq (by first | rfl | with_unfolding_all rfl), fun env => ⟨_, rfl⟩⟩
theorem tBadAmount : EcT eBadAmount := ⟨by decide, by decide, by decide, by decide, fun doc pm an ct qual cc ca s x v => BindsTo.of_eq (by first | rfl | with_unfolding_all rfl), fun env => ⟨_, rfl⟩⟩
theorem tBadAmounts : EcT eBadAmounts := ⟨by decide, by decide, by decide, by decide, fun doc pm an ct qual cc ca s x v => BindsTo.of_eq (by first | rfl | with_unfolding_all rfl), fun env => ⟨_, rfl⟩⟩
theorem tBadPrices : EcT eBadPrices := ⟨by decide, by decide, by decide, by decide, fun doc pm an ct qual cc ca s x v => BindsTo.of_eq (by first | rfl | with_unfolding_all rfl), fun env => ⟨_, rfl⟩⟩
def ecs : List EcD := [eBadSorts, eBadRule, eBadAmount, eBadAmounts, eBadPrices]
def d0 : He.DefD := ⟨("is_list", none), "is_list", "is_list", defArgs (top 4), defBody (top 4), defScope (top 4), [], []⟩
def d1 : He.DefD := ⟨("is_whole", none), "is_whole", "is_whole", defArgs (top 5), defBody (top 5), defScope (top 5), [], []⟩
def d2 : He.DefD := ⟨("is_natural", none), "is_natural", "is_natural", defArgs (top 6), defBody (top 6), defScope (top 6), [], []⟩
def d3 : He.DefD := ⟨("is_counting", none), "is_counting", "is_counting", defArgs (top 7), defBody (top 7), defScope (top 7), [], []⟩
def d4 : He.DefD := ⟨("as_tuples", none), "as_tuples", "as_tuples", defArgs (top 8), defBody (top 8), defScope (top 8), [], []⟩
def d5 : He.DefD := ⟨("is_amount", none), "is_amount", "is_amount", defArgs (top 9), defBody (top 9), defScope (top 9), [.non], []⟩
def d6 : He.DefD := ⟨("are_prices", none), "are_prices", "are_prices", defArgs (top 10), defBody (top 10), defScope (top 10), [.non], []⟩
def d7 : He.DefD := ⟨("is_at_most", none), "is_at_most", "is_at_most", defArgs (top 11), defBody (top 11), defScope (top 11), [], []⟩
def d8 : He.DefD := ⟨("dot", none), "dot", "dot", defArgs (top 12), defBody (top 12), defScope (top 12), [], []⟩
def d9 : He.DefD := ⟨("checked_amounts", none), "checked_amounts", "checked_amounts", defArgs (top 21), defBody (top 21), defScope (top 21), [], []⟩
def d10 : He.DefD := ⟨("least_of", none), "least_of", "least_of", defArgs (top 22), defBody (top 22), defScope (top 22), [], []⟩
def d11 : He.DefD := ⟨("least_rows", none), "least_rows", "least_rows", defArgs (top 23), defBody (top 23), defScope (top 23), [], []⟩
def d12 : He.DefD := ⟨("cost", none), "cost", "cost", defArgs (top 24), defBody (top 24), defScope (top 24), [], []⟩
def d13 : He.DefD := ⟨("are_sorts", none), "are_sorts", "are_sorts", defArgs (top 29), defBody (top 29), defScope (top 29), [], []⟩
def d14 : He.DefD := ⟨("check_rules", none), "check_rules", "check_rules", defArgs (top 34), defBody (top 34), defScope (top 34), [], []⟩
def d15 : He.DefD := ⟨("_law_source", none), "_law_source", "_law_source", defArgs (top 37), defBody (top 37), defScope (top 37), [], []⟩
def d16 : He.DefD := ⟨("_law_draw", none), "_law_draw", "_law_draw", defArgs (top 38), defBody (top 38), defScope (top 38), [], []⟩
def d17 : He.DefD := ⟨("_law_pick", none), "_law_pick", "_law_pick", defArgs (top 39), defBody (top 39), defScope (top 39), [], []⟩
def d18 : He.DefD := ⟨("_law_same", none), "_law_same", "_law_same", defArgs (top 40), defBody (top 40), defScope (top 40), [], []⟩
def d19 : He.DefD := ⟨("_law_number", none), "_law_number", "_law_number", defArgs (top 41), defBody (top 41), defScope (top 41), [], []⟩
def d20 : He.DefD := ⟨("_law_amount", none), "_law_amount", "_law_amount", defArgs (top 42), defBody (top 42), defScope (top 42), [], []⟩
def d21 : He.DefD := ⟨("_law_amounts", none), "_law_amounts", "_law_amounts", defArgs (top 43), defBody (top 43), defScope (top 43), [], []⟩
def d22 : He.DefD := ⟨("_law_handed", none), "_law_handed", "_law_handed", defArgs (top 44), defBody (top 44), defScope (top 44), [], []⟩
def d23 : He.DefD := ⟨("_law_dot", none), "_law_dot", "_law_dot", defArgs (top 45), defBody (top 45), defScope (top 45), [], []⟩
def d24 : He.DefD := ⟨("_law_most", none), "_law_most", "_law_most", defArgs (top 46), defBody (top 46), defScope (top 46), [], []⟩
def d25 : He.DefD := ⟨("_law_least", none), "_law_least", "_law_least", defArgs (top 47), defBody (top 47), defScope (top 47), [], []⟩
def d26 : He.DefD := ⟨("_law_odd", none), "_law_odd", "_law_odd", defArgs (top 48), defBody (top 48), defScope (top 48), [], []⟩
def d27 : He.DefD := ⟨("_law_told_rows", none), "_law_told_rows", "_law_told_rows", defArgs (top 49), defBody (top 49), defScope (top 49), [], []⟩
def d28 : He.DefD := ⟨("_law_told_cost", none), "_law_told_cost", "_law_told_cost", defArgs (top 50), defBody (top 50), defScope (top 50), [], []⟩
def d29 : He.DefD := ⟨("_law_prices", none), "_law_prices", "_law_prices", defArgs (top 51), defBody (top 51), defScope (top 51), [], []⟩
def d30 : He.DefD := ⟨("_law_rows_right", none), "_law_rows_right", "_law_rows_right", defArgs (top 52), defBody (top 52), defScope (top 52), [], []⟩
def d31 : He.DefD := ⟨("_law_costs_right", none), "_law_costs_right", "_law_costs_right", defArgs (top 53), defBody (top 53), defScope (top 53), [], []⟩
def d32 : He.DefD := ⟨("law", none), "law", "law", defArgs (top 54), defBody (top 54), defScope (top 54), [], []⟩
def d33 : He.DefD := ⟨("Program", some "__init__"), "__init__", "Program.__init__", defArgs (inCls 0 (top 35)), defBody (inCls 0 (top 35)), defScope (inCls 0 (top 35)), [], []⟩
def d34 : He.DefD := ⟨("Program", some "__eq__"), "__eq__", "Program.__eq__", defArgs (inCls 7 (top 35)), defBody (inCls 7 (top 35)), defScope (inCls 7 (top 35)), [], []⟩
def fn : List He.DefD := [d0, d1, d2, d3, d4, d5, d6, d7, d8, d9, d10, d11, d12, d13, d14, d15, d16, d17, d18, d19, d20, d21, d22, d23, d24, d25, d26, d27, d28, d29, d30, d31, d32, d33, d34]
def fa : List He.Fa := ([.free "super", .free "all", .free "any", .free "bool", .free "dict", .free "enumerate", .free "int", .free "isinstance", .free "len", .free "list", .free "max", .free "min", .free "range", .free "repr", .free "set", .free "sorted"] : List He.Fa) ++ ([.free "str", .free "sum", .free "tuple", .free "zip", .exm "BadSorts" "BadSorts" true, .exm "BadSorts" "BadRule" false, .exm "BadSorts" "BadAmount" false, .exm "BadSorts" "BadAmounts" false, .exm "BadSorts" "BadPrices" false, .exm "BadRule" "BadSorts" false, .exm "BadRule" "BadRule" true, .exm "BadRule" "BadAmount" false, .exm "BadRule" "BadAmounts" false, .exm "BadRule" "BadPrices" false, .exm "BadAmount" "BadSorts" false, .exm "BadAmount" "BadRule" false] : List He.Fa) ++ ([.exm "BadAmount" "BadAmount" true, .exm "BadAmount" "BadAmounts" false, .exm "BadAmount" "BadPrices" false, .exm "BadAmounts" "BadSorts" false, .exm "BadAmounts" "BadRule" false, .exm "BadAmounts" "BadAmount" false, .exm "BadAmounts" "BadAmounts" true, .exm "BadAmounts" "BadPrices" false, .exm "BadPrices" "BadSorts" false, .exm "BadPrices" "BadRule" false, .exm "BadPrices" "BadAmount" false, .exm "BadPrices" "BadAmounts" false, .exm "BadPrices" "BadPrices" true, .glo "Program", .glo "_law_dot", .glo "is_list"] : List He.Fa) ++ ([.glo "is_whole", .glo "is_natural", .glo "is_counting", .glo "as_tuples", .glo "is_amount", .glo "are_prices", .glo "is_at_most", .glo "dot", .glo "checked_amounts", .glo "least_of", .glo "least_rows", .glo "cost", .glo "are_sorts", .glo "check_rules", .glo "_law_source", .glo "_law_draw"] : List He.Fa) ++ ([.glo "_law_pick", .glo "_law_same", .glo "_law_number", .glo "_law_amount", .glo "_law_amounts", .glo "_law_handed", .glo "_law_most", .glo "_law_least", .glo "_law_odd", .glo "_law_told_rows", .glo "_law_told_cost", .glo "_law_prices", .glo "_law_rows_right", .glo "_law_costs_right", .glo "law", .mkr "Program"] : List He.Fa) ++ ([.meth "Program" "__eq__", .cls "Program", .noat "Program" "sorts", .noat "Program" "rules", .noat "Program" "names", .noat "Program" "kept"] : List He.Fa)
def xb (K : PySem.W.Frag) : Bool := insB K (He.ga K "Program") && (insKB K (He.ga K "Program") && isFnT K (He.ga K "_law_dot"))
abbrev R : PySem.W.OpenRow := PySem.W.OpenLaw.row PySem.Challenge.rw_anyprice_k01_rows_and_costs
abbrev pfile : Str := R.prog.main.file
abbrev hk : PySem.W.Hook := hookY 4 fa fn pfile ecs xb
def ob (s : PySem.W.SharedT) : AlY := obsY 4 fa fn pfile ecs xb (HandSHeadRun.getT s)
theorem ob_eq (s : PySem.W.SharedT) : ob s = hk.obs s.abs := obsY_eq (HandSHeadRun.getT_eq s)
theorem run (w : World) : HandSHeadRun.RunEq R (PySem.W.view R.prog [54]) hk ob 4000 loose w := by
  intro os
  kernel_rfl
def ads (K : PySem.W.Frag) : Ads := ⟨He.ga K "BadSorts", ecF K "BadSorts", He.ga K "BadRule", ecF K "BadRule", He.ga K "BadAmount", ecF K "BadAmount", He.ga K "BadAmounts", ecF K "BadAmounts", He.ga K "BadPrices", ecF K "BadPrices", He.ga K "Program", He.ga K "_law_dot"⟩
theorem facts {w : World} {K : PySem.W.Frag} {h base : Heap} {mg : Str → Option Value} (G1 : K.In h) (G2 : h.Ns mainGlobals mg) (c : SaysX fa fn pfile ecs K) (y : xb K = true) : Fx PySem.Challenge.pw_anyprice_k01_rows_and_costs w K mg base (ads K) where
  m_all := He.free_ok G1 G2 (c.d.fact 1 (f := .free "all") rfl)
  m_any := He.free_ok G1 G2 (c.d.fact 2 (f := .free "any") rfl)
  m_bool := He.free_ok G1 G2 (c.d.fact 3 (f := .free "bool") rfl)
  m_dict := He.free_ok G1 G2 (c.d.fact 4 (f := .free "dict") rfl)
  m_enumerate := He.free_ok G1 G2 (c.d.fact 5 (f := .free "enumerate") rfl)
  m_int := He.free_ok G1 G2 (c.d.fact 6 (f := .free "int") rfl)
  m_isinstance := He.free_ok G1 G2 (c.d.fact 7 (f := .free "isinstance") rfl)
  m_len := He.free_ok G1 G2 (c.d.fact 8 (f := .free "len") rfl)
  m_list := He.free_ok G1 G2 (c.d.fact 9 (f := .free "list") rfl)
  m_max := He.free_ok G1 G2 (c.d.fact 10 (f := .free "max") rfl)
  m_min := He.free_ok G1 G2 (c.d.fact 11 (f := .free "min") rfl)
  m_range := He.free_ok G1 G2 (c.d.fact 12 (f := .free "range") rfl)
  m_repr := He.free_ok G1 G2 (c.d.fact 13 (f := .free "repr") rfl)
  m_set := He.free_ok G1 G2 (c.d.fact 14 (f := .free "set") rfl)
  m_sorted := He.free_ok G1 G2 (c.d.fact 15 (f := .free "sorted") rfl)
  m_str := He.free_ok G1 G2 (c.d.fact 16 (f := .free "str") rfl)
  m_sum := He.free_ok G1 G2 (c.d.fact 17 (f := .free "sum") rfl)
  m_tuple := He.free_ok G1 G2 (c.d.fact 18 (f := .free "tuple") rfl)
  m_zip := He.free_ok G1 G2 (c.d.fact 19 (f := .free "zip") rfl)
  q_BadSorts := c.own (P := PySem.Challenge.pw_anyprice_k01_rows_and_costs) G1 G2 0 tBadSorts (He.free_ok G1 G2 (c.d.fact 0 (f := .free "super") rfl)) (by kernel_rfl)
  q_BadRule := c.own (P := PySem.Challenge.pw_anyprice_k01_rows_and_costs) G1 G2 1 tBadRule (He.free_ok G1 G2 (c.d.fact 0 (f := .free "super") rfl)) (by kernel_rfl)
  q_BadAmount := c.own (P := PySem.Challenge.pw_anyprice_k01_rows_and_costs) G1 G2 2 tBadAmount (He.free_ok G1 G2 (c.d.fact 0 (f := .free "super") rfl)) (by kernel_rfl)
  q_BadAmounts := c.own (P := PySem.Challenge.pw_anyprice_k01_rows_and_costs) G1 G2 3 tBadAmounts (He.free_ok G1 G2 (c.d.fact 0 (f := .free "super") rfl)) (by kernel_rfl)
  q_BadPrices := c.own (P := PySem.Challenge.pw_anyprice_k01_rows_and_costs) G1 G2 4 tBadPrices (He.free_ok G1 G2 (c.d.fact 0 (f := .free "super") rfl)) (by kernel_rfl)
  x_BadSorts_BadSorts := He.exm_ok (c.d.fact 20 (f := .exm "BadSorts" "BadSorts" true) rfl)
  x_BadSorts_BadRule := He.exm_ok (c.d.fact 21 (f := .exm "BadSorts" "BadRule" false) rfl)
  x_BadSorts_BadAmount := He.exm_ok (c.d.fact 22 (f := .exm "BadSorts" "BadAmount" false) rfl)
  x_BadSorts_BadAmounts := He.exm_ok (c.d.fact 23 (f := .exm "BadSorts" "BadAmounts" false) rfl)
  x_BadSorts_BadPrices := He.exm_ok (c.d.fact 24 (f := .exm "BadSorts" "BadPrices" false) rfl)
  x_BadRule_BadSorts := He.exm_ok (c.d.fact 25 (f := .exm "BadRule" "BadSorts" false) rfl)
  x_BadRule_BadRule := He.exm_ok (c.d.fact 26 (f := .exm "BadRule" "BadRule" true) rfl)
  x_BadRule_BadAmount := He.exm_ok (c.d.fact 27 (f := .exm "BadRule" "BadAmount" false) rfl)
  x_BadRule_BadAmounts := He.exm_ok (c.d.fact 28 (f := .exm "BadRule" "BadAmounts" false) rfl)
  x_BadRule_BadPrices := He.exm_ok (c.d.fact 29 (f := .exm "BadRule" "BadPrices" false) rfl)
  x_BadAmount_BadSorts := He.exm_ok (c.d.fact 30 (f := .exm "BadAmount" "BadSorts" false) rfl)
  x_BadAmount_BadRule := He.exm_ok (c.d.fact 31 (f := .exm "BadAmount" "BadRule" false) rfl)
  x_BadAmount_BadAmount := He.exm_ok (c.d.fact 32 (f := .exm "BadAmount" "BadAmount" true) rfl)
  x_BadAmount_BadAmounts := He.exm_ok (c.d.fact 33 (f := .exm "BadAmount" "BadAmounts" false) rfl)
  x_BadAmount_BadPrices := He.exm_ok (c.d.fact 34 (f := .exm "BadAmount" "BadPrices" false) rfl)
  x_BadAmounts_BadSorts := He.exm_ok (c.d.fact 35 (f := .exm "BadAmounts" "BadSorts" false) rfl)
  x_BadAmounts_BadRule := He.exm_ok (c.d.fact 36 (f := .exm "BadAmounts" "BadRule" false) rfl)
  x_BadAmounts_BadAmount := He.exm_ok (c.d.fact 37 (f := .exm "BadAmounts" "BadAmount" false) rfl)
  x_BadAmounts_BadAmounts := He.exm_ok (c.d.fact 38 (f := .exm "BadAmounts" "BadAmounts" true) rfl)
  x_BadAmounts_BadPrices := He.exm_ok (c.d.fact 39 (f := .exm "BadAmounts" "BadPrices" false) rfl)
  x_BadPrices_BadSorts := He.exm_ok (c.d.fact 40 (f := .exm "BadPrices" "BadSorts" false) rfl)
  x_BadPrices_BadRule := He.exm_ok (c.d.fact 41 (f := .exm "BadPrices" "BadRule" false) rfl)
  x_BadPrices_BadAmount := He.exm_ok (c.d.fact 42 (f := .exm "BadPrices" "BadAmount" false) rfl)
  x_BadPrices_BadAmounts := He.exm_ok (c.d.fact 43 (f := .exm "BadPrices" "BadAmounts" false) rfl)
  x_BadPrices_BadPrices := He.exm_ok (c.d.fact 44 (f := .exm "BadPrices" "BadPrices" true) rfl)
  o_Program := He.glo_ok G1 G2 (c.d.fact 45 (f := .glo "Program") rfl)
  o__law_dot := He.glo_ok G1 G2 (c.d.fact 46 (f := .glo "_law_dot") rfl)
  F_is_list := (let ⟨fd, F⟩ := c.d.def_ 0 (d := d0) rfl; ⟨_, fd, He.glo_ok G1 G2 (c.d.fact 47 (f := .glo "is_list") rfl), F⟩)
  F_is_whole := (let ⟨fd, F⟩ := c.d.def_ 1 (d := d1) rfl; ⟨_, fd, He.glo_ok G1 G2 (c.d.fact 48 (f := .glo "is_whole") rfl), F⟩)
  F_is_natural := (let ⟨fd, F⟩ := c.d.def_ 2 (d := d2) rfl; ⟨_, fd, He.glo_ok G1 G2 (c.d.fact 49 (f := .glo "is_natural") rfl), F⟩)
  F_is_counting := (let ⟨fd, F⟩ := c.d.def_ 3 (d := d3) rfl; ⟨_, fd, He.glo_ok G1 G2 (c.d.fact 50 (f := .glo "is_counting") rfl), F⟩)
  F_as_tuples := (let ⟨fd, F⟩ := c.d.def_ 4 (d := d4) rfl; ⟨_, fd, He.glo_ok G1 G2 (c.d.fact 51 (f := .glo "as_tuples") rfl), F⟩)
  F_is_amount := (let ⟨fd, F⟩ := c.d.def_ 5 (d := d5) rfl; ⟨_, fd, He.glo_ok G1 G2 (c.d.fact 52 (f := .glo "is_amount") rfl), F⟩)
  F_are_prices := (let ⟨fd, F⟩ := c.d.def_ 6 (d := d6) rfl; ⟨_, fd, He.glo_ok G1 G2 (c.d.fact 53 (f := .glo "are_prices") rfl), F⟩)
  F_is_at_most := (let ⟨fd, F⟩ := c.d.def_ 7 (d := d7) rfl; ⟨_, fd, He.glo_ok G1 G2 (c.d.fact 54 (f := .glo "is_at_most") rfl), F⟩)
  F_dot := (let ⟨fd, F⟩ := c.d.def_ 8 (d := d8) rfl; ⟨_, fd, He.glo_ok G1 G2 (c.d.fact 55 (f := .glo "dot") rfl), F⟩)
  F_checked_amounts := (let ⟨fd, F⟩ := c.d.def_ 9 (d := d9) rfl; ⟨_, fd, He.glo_ok G1 G2 (c.d.fact 56 (f := .glo "checked_amounts") rfl), F⟩)
  F_least_of := (let ⟨fd, F⟩ := c.d.def_ 10 (d := d10) rfl; ⟨_, fd, He.glo_ok G1 G2 (c.d.fact 57 (f := .glo "least_of") rfl), F⟩)
  F_least_rows := (let ⟨fd, F⟩ := c.d.def_ 11 (d := d11) rfl; ⟨_, fd, He.glo_ok G1 G2 (c.d.fact 58 (f := .glo "least_rows") rfl), F⟩)
  F_cost := (let ⟨fd, F⟩ := c.d.def_ 12 (d := d12) rfl; ⟨_, fd, He.glo_ok G1 G2 (c.d.fact 59 (f := .glo "cost") rfl), F⟩)
  F_are_sorts := (let ⟨fd, F⟩ := c.d.def_ 13 (d := d13) rfl; ⟨_, fd, He.glo_ok G1 G2 (c.d.fact 60 (f := .glo "are_sorts") rfl), F⟩)
  F_check_rules := (let ⟨fd, F⟩ := c.d.def_ 14 (d := d14) rfl; ⟨_, fd, He.glo_ok G1 G2 (c.d.fact 61 (f := .glo "check_rules") rfl), F⟩)
  F__law_source := (let ⟨fd, F⟩ := c.d.def_ 15 (d := d15) rfl; ⟨_, fd, He.glo_ok G1 G2 (c.d.fact 62 (f := .glo "_law_source") rfl), F⟩)
  F__law_draw := (let ⟨fd, F⟩ := c.d.def_ 16 (d := d16) rfl; ⟨_, fd, He.glo_ok G1 G2 (c.d.fact 63 (f := .glo "_law_draw") rfl), F⟩)
  F__law_pick := (let ⟨fd, F⟩ := c.d.def_ 17 (d := d17) rfl; ⟨_, fd, He.glo_ok G1 G2 (c.d.fact 64 (f := .glo "_law_pick") rfl), F⟩)
  F__law_same := (let ⟨fd, F⟩ := c.d.def_ 18 (d := d18) rfl; ⟨_, fd, He.glo_ok G1 G2 (c.d.fact 65 (f := .glo "_law_same") rfl), F⟩)
  F__law_number := (let ⟨fd, F⟩ := c.d.def_ 19 (d := d19) rfl; ⟨_, fd, He.glo_ok G1 G2 (c.d.fact 66 (f := .glo "_law_number") rfl), F⟩)
  F__law_amount := (let ⟨fd, F⟩ := c.d.def_ 20 (d := d20) rfl; ⟨_, fd, He.glo_ok G1 G2 (c.d.fact 67 (f := .glo "_law_amount") rfl), F⟩)
  F__law_amounts := (let ⟨fd, F⟩ := c.d.def_ 21 (d := d21) rfl; ⟨_, fd, He.glo_ok G1 G2 (c.d.fact 68 (f := .glo "_law_amounts") rfl), F⟩)
  F__law_handed := (let ⟨fd, F⟩ := c.d.def_ 22 (d := d22) rfl; ⟨_, fd, He.glo_ok G1 G2 (c.d.fact 69 (f := .glo "_law_handed") rfl), F⟩)
  F__law_dot := (let ⟨fd, F⟩ := c.d.def_ 23 (d := d23) rfl; ⟨_, fd, He.glo_ok G1 G2 (c.d.fact 46 (f := .glo "_law_dot") rfl), F⟩)
  F__law_most := (let ⟨fd, F⟩ := c.d.def_ 24 (d := d24) rfl; ⟨_, fd, He.glo_ok G1 G2 (c.d.fact 70 (f := .glo "_law_most") rfl), F⟩)
  F__law_least := (let ⟨fd, F⟩ := c.d.def_ 25 (d := d25) rfl; ⟨_, fd, He.glo_ok G1 G2 (c.d.fact 71 (f := .glo "_law_least") rfl), F⟩)
  F__law_odd := (let ⟨fd, F⟩ := c.d.def_ 26 (d := d26) rfl; ⟨_, fd, He.glo_ok G1 G2 (c.d.fact 72 (f := .glo "_law_odd") rfl), F⟩)
  F__law_told_rows := (let ⟨fd, F⟩ := c.d.def_ 27 (d := d27) rfl; ⟨_, fd, He.glo_ok G1 G2 (c.d.fact 73 (f := .glo "_law_told_rows") rfl), F⟩)
  F__law_told_cost := (let ⟨fd, F⟩ := c.d.def_ 28 (d := d28) rfl; ⟨_, fd, He.glo_ok G1 G2 (c.d.fact 74 (f := .glo "_law_told_cost") rfl), F⟩)
  F__law_prices := (let ⟨fd, F⟩ := c.d.def_ 29 (d := d29) rfl; ⟨_, fd, He.glo_ok G1 G2 (c.d.fact 75 (f := .glo "_law_prices") rfl), F⟩)
  F__law_rows_right := (let ⟨fd, F⟩ := c.d.def_ 30 (d := d30) rfl; ⟨_, fd, He.glo_ok G1 G2 (c.d.fact 76 (f := .glo "_law_rows_right") rfl), F⟩)
  F__law_costs_right := (let ⟨fd, F⟩ := c.d.def_ 31 (d := d31) rfl; ⟨_, fd, He.glo_ok G1 G2 (c.d.fact 77 (f := .glo "_law_costs_right") rfl), F⟩)
  F_law := (let ⟨fd, F⟩ := c.d.def_ 32 (d := d32) rfl; ⟨_, fd, He.glo_ok G1 G2 (c.d.fact 78 (f := .glo "law") rfl), F⟩)
  I_Program_init := (let ⟨fd, F⟩ := c.d.def_ 33 (d := d33) rfl; ⟨_, fd, He.mkr_ok (c.d.fact 79 (f := .mkr "Program") rfl), F⟩)
  E_Program_eq := (let ⟨fd, F⟩ := c.d.def_ 34 (d := d34) rfl; ⟨_, fd, He.eqO_ok (and2 (c.d.fact 80 (f := .meth "Program" "__eq__") rfl)).1, (and2 (and2 (c.d.fact 80 (f := .meth "Program" "__eq__") rfl)).2).1, F⟩)
  f_Program := insB_ok (He.cls_ok (c.d.fact 81 (f := .cls "Program") rfl)) (and2 y).1
  n_Program_sorts := He.noat_ok (c.d.fact 82 (f := .noat "Program" "sorts") rfl)
  n_Program_rules := He.noat_ok (c.d.fact 83 (f := .noat "Program" "rules") rfl)
  n_Program_names := He.noat_ok (c.d.fact 84 (f := .noat "Program" "names") rfl)
  n_Program_kept := He.noat_ok (c.d.fact 85 (f := .noat "Program" "kept") rfl)
  k_Program_int := insKB_ok (and2 (and2 y).2).1 "int" (by decide)
  k_Program_bool := insKB_ok (and2 (and2 y).2).1 "bool" (by decide)
  k_Program_str := insKB_ok (and2 (and2 y).2).1 "str" (by decide)
  k_Program_list := insKB_ok (and2 (and2 y).2).1 "list" (by decide)
  k_Program_tuple := insKB_ok (and2 (and2 y).2).1 "tuple" (by decide)
  k_Program_dict := insKB_ok (and2 (and2 y).2).1 "dict" (by decide)
  k_Program_set := insKB_ok (and2 (and2 y).2).1 "set" (by decide)
  t__law_dot := (and2 (and2 y).2).2
theorem theEnd {w : World} {K : PySem.W.Frag} {h : Heap} {mg : Str → Option Value} {fa : Addr} (G1 : K.In h) (G2 : h.Ns mainGlobals mg) (hmg : mg ("law" : Str) = some (.ref fa)) (c : SaysX K1.fa fn pfile ecs K) (y : xb K = true) :
    ∃ (K : PySem.W.Frag) (fd : FuncData) (sp : Sp), K.In h ∧ (∀ (s : Shared) (u : Value), BindsTo s fd ⟨[u], []⟩ [("_law_script", u)]) ∧
      (∀ (H : Hp) (a : Addr) (ns : List Int), ns.length ≤ 63 → (∀ z ∈ ns, Builtin.Int.intBits z ≤ 1048576) → Only H → SqL K H a (ns.map V.int) → sp [.ref a] H (fun v _ => v = .bl true) fun _ _ _ => False) ∧
      ∀ b : Heap, K.In b → b.Ns mainGlobals mg → FnOkG PySem.Challenge.pw_anyprice_k01_rows_and_costs w K mg b (L2.CX PySem.Challenge.pw_anyprice_k01_rows_and_costs w) 14 fa fd ["_law_script"] sp := by
  obtain ⟨fa', fd, hm, F⟩ := (facts (w := w) (base := h) G1 G2 c y).F_law
  have e := hmg.symm.trans hm
  cases e
  have b := FunD.bindsA (ps := ["_law_script"]) F fun _ _ _ _ _ _ us hl => match us, hl with | [_], _ => rfl
  refine ⟨K, fd, spZ K 1 (mdE (f_law K (ads K))), G1, fun s v => b s [v] rfl, fun H a ns hl _ _ hS => start_spZ (law_ok (facts (w := w) (base := h) G1 G2 c y) ns (by omega)) (by have := le_size (n := ns.length) (by omega); exact this) hS, fun base hb hn => ?_⟩
  exact fun_mG F sc_law (b_law (facts (w := w) (base := base) G1 G2 c y) _)
end K1
open PySem PySem.W PySem.Calls PyProof.Rows
theorem PySem.Challenge.cw_anyprice_k01_rows_and_costs_holds : PySem.Challenge.rw_anyprice_k01_rows_and_costs.Holds := by
  w_on; o_law
  refine HandSHeadRun.head_any (r := OpenLaw.row PySem.Challenge.rw_anyprice_k01_rows_and_costs) (q := view (OpenLaw.row PySem.Challenge.rw_anyprice_k01_rows_and_costs).prog [54]) (H := K1.hk) (ob := K1.ob) (M := 4000) (loose := K1.loose) (d := HandSHeadRun.topDef (OpenLaw.row PySem.Challenge.rw_anyprice_k01_rows_and_costs).prog 54) (kwd := []) K1.ob_eq
    (by kernel_rfl) (fun s => by kernel_rfl) K1.run (by kernel_rfl) (by kernel_rfl) (by kernel_rfl) (by rfl) (by first | assumption | decide +kernel) (by decide +kernel) ⟨rfl, rfl, rfl, rfl, rfl, by decide +kernel⟩ ?hw ?hc
  case hw => w_witness2
  case hc =>
    refine Zy.walk_goG (l := PySem.Challenge.rw_anyprice_k01_rows_and_costs) (n := 63) (k := 14) (x := "_law_script") (C := fun w => L2.CX (PySem.Challenge.rw_anyprice_k01_rows_and_costs).prog w) rfl (by decide) (by kernel_rfl) ⟨⟨rfl, by decide, by decide⟩, rfl⟩ ?F (fun w H s e s' ⟨_, _, _, _, _, _, _, _, _, _, _, _, z⟩ => z)
    intro w mg fa h Y G hmg0
    obtain ⟨K, KX, c, y⟩ := Y
    have hmg : mg ("law" : PySem.Str) = some (.ref fa) := by
      have e : (HandSHeadRun.topDef (OpenLaw.row PySem.Challenge.rw_anyprice_k01_rows_and_costs).prog 54).name = ("law" : PySem.Str) := by kernel_rfl
      rw [← e]
      exact hmg0
    exact K1.theEnd KX G hmg c y
