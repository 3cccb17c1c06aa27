import PyProof.Rows.All
import Wide.All
import OpenK.AllK
import Wide.FinOn
import HandS.ForExc
import HandS.ForMost
import HandS.TupAny
import HandS.TupMul
import PyProof.SumWalkG
import PyProof.WalkInts
import PyProof.WalksMore
import PyProof.Rows.TupIter
import HandS.Wide
import HandS.TupLe
import HandS.WordsDict
import HandS.SortInts
import HandS.IsInst
import KE.KSortedM
import HandS.Walk
import HandS.Rev
import HandS.Zip
import KE.GoesEnum
import HandS.Iter
import HandS.Conv
import HandS.Dict
import HandS.Small
import HandS.TupLen
import PySem.Challenge.RW_pagehold_k37_whole_spread_errors
set_option Elab.async false
set_option linter.all false
set_option maxRecDepth 100000
set_option maxHeartbeats 4000000
namespace MM
open PySem PySem.Spec PyProof.Rows L2

/-! ### data -/
/-- built-in types -/
inductive Ty where
  | non | bl | int | str | tup | lst | dic
  deriving DecidableEq
def Ty.name : Ty → String
  | .non => "NoneType" | .bl => "bool" | .int => "int" | .str => "str" | .tup => "tuple" | .lst => "list" | .dic => "dict"
inductive D where
  | non | ty (t : Ty) | bl (b : Bool) | int (i : Int) | str (x : Str) | tup (ds : List D) | rol (ds : List D) | loc (n : Nat) | kt (ds : List D)

inductive O where
  | lst (ds : List D)
  | dk (kvs : List (Key × D))
  | dt (kvs : List (List Key × D))

inductive R where
  | val (d : D) | new (o : O)
abbrev Sto := List O
abbrev En := List (Option D)
inductive Out (α : Type) where
  | ok (a : α) (st : Sto)
  | exc (c : Str) (st : Sto)
  | bad
def Out.bind {α β : Type} : Out α → (α → Sto → Out β) → Out β
  | .ok a st, f => f a st
  | .exc c st, _ => .exc c st
  | .bad, _ => .bad
@[simp] theorem Out.bind_ok {α β : Type} (a : α) (st : Sto) (f : α → Sto → Out β) : (Out.ok a st).bind f = f a st := id rfl
abbrev DE := En → Sto → Out R
abbrev DT := En → Sto → Out Bool
abbrev DA := En → Sto → Out (List R)

/-! ### what stands for what -/
def RoAt (K : PySem.W.Frag) (H : Hp) (a : Addr) (xs : List V) : Prop := (∃ o, H a = some (.frz o (.lst xs))) ∨
    ∃ (o : Obj) (its : Array Value) (n : Nat), K.lookup a = some o ∧ o.cls = .type "list" ∧ o.dict = none ∧ o.data = .seq its n ∧ its.size ≤ sizeLine ∧ Vals xs its.toList
section
variable (K : PySem.W.Frag) (μ : List Addr) (H : Hp)
mutual
def Rv : V → D → Prop
  | v, .non => v = .non
  | v, .ty t => v = .ty t.name
  | v, .bl b => v = .bl b
  | v, .int i => v = .int i
  | v, .str x => v = .str x
  | v, .tup ds => ∃ a vs, v = .ref a ∧ H a = some (.tup vs) ∧ Rvs vs ds
  | v, .kt ds => ∃ a vs, v = .ref a ∧ SqT K H a vs ∧ Rvs vs ds
  | v, .rol ds => ∃ a vs, v = .ref a ∧ RoAt K H a vs ∧ Rvs vs ds
  | v, .loc n => ∃ a, v = .ref a ∧ μ[n]? = some a
def Rvs : List V → List D → Prop
  | vs, [] => vs = []
  | vs, d :: ds => ∃ v r, vs = v :: r ∧ Rv v d ∧ Rvs r ds
end
def Rkv {κ : Type} (a : List (κ × V)) (b : List (κ × D)) : Prop := Paired (fun p q => p.1 = q.1 ∧ Rv K μ H p.2 q.2) a b
def RepO (a : Addr) : O → Prop
  | .lst ds => ∃ vs, H a = some (.lst vs) ∧ Rvs K μ H vs ds
  | .dk kvs => ∃ ks, H a = some (.dK ks) ∧ Rkv K μ H ks kvs
  | .dt kvs => ∃ ks, H a = some (.dT ks) ∧ Rkv K μ H ks kvs
structure Rep (st : Sto) : Prop where
  len : μ.length = st.length
  obj : ∀ (i : Nat) (o : O), st[i]? = some o → ∃ a, μ[i]? = some a ∧ RepO K μ H a o
  inj : ∀ (i j : Nat) (a : Addr), μ[i]? = some a → μ[j]? = some a → i = j
def RvE (σ : L2.St) (ρ : En) : Prop := σ.length = ρ.length ∧ ∀ (i : Nat) (d : D), ρ[i]? = some (some d) → ∃ v, σ[i]? = some (some v) ∧ Rv K μ H v d
/-- a result; H0: where one began -/
def RvR (H0 : Hp) (v : V) : R → Prop
  | .val d => Rv K μ H v d
  | .new o => ∃ a, v = .ref a ∧ H0 a = none ∧ a ∉ μ ∧ RepO K μ H a o
end
/-- from here to there -/
structure Step (μ : List Addr) (H : Hp) (μ' : List Addr) (H' : Hp) : Prop where
  pre : ∃ ν, μ' = μ ++ ν ∧ ∀ a ∈ ν, H a = none
  tup : ∀ a xs, H a = some (.tup xs) → H' a = some (.tup xs)
  frz : ∀ a o u, H a = some (.frz o u) → H' a = some (.frz o u)
  oth : ∀ a o, H a = some o → a ∉ μ → H' a = some o
  free : ∀ a, H' a = none → H a = none

section
variable {K : PySem.W.Frag} {μ μ' μ1 μ2 : List Addr} {H H' H1 H2 H0 : Hp}
theorem Step.refl : Step μ H μ H := ⟨⟨[], by simp⟩, fun _ _ h => h, fun _ _ _ h => h, fun _ _ h _ => h, fun _ h => h⟩
theorem Step.trans (a : Step μ H μ1 H1) (b : Step μ1 H1 μ2 H2) : Step μ H μ2 H2 := by
  obtain ⟨ν1, e1, f1⟩ := a.pre
  obtain ⟨ν2, e2, f2⟩ := b.pre
  refine ⟨⟨ν1 ++ ν2, by rw [e2, e1, List.append_assoc], fun x hx => ?_⟩, fun x xs h => b.tup x xs (a.tup x xs h), fun x o u h => b.frz x o u (a.frz x o u h), fun x o h n => ?_, fun x h => a.free x (b.free x h)⟩
  · rcases List.mem_append.mp hx with h | h
    · exact f1 x h
    · exact a.free x (f2 x h)
  · refine b.oth x o (a.oth x o h n) ?_
    rw [e1]
    intro z
    rcases List.mem_append.mp z with z | z
    · exact n z
    · rw [f1 x z] at h; cases h
theorem Step.get (s : Step μ H μ' H') {n : Nat} {a : Addr} (h : μ[n]? = some a) : μ'[n]? = some a := by
  obtain ⟨ν, e, _⟩ := s.pre
  rw [e, List.getElem?_append_left (List.getElem?_eq_some_iff.mp h).1]
  exact h
theorem Step.sqt (s : Step μ H μ' H') {a : Addr} {xs : List V} (h : SqT K H a xs) : SqT K H' a xs := by
  rcases h with (h | ⟨o, h⟩) | h
  · exact .inl (.inl (s.tup _ _ h))
  · exact .inl (.inr ⟨o, s.frz _ _ _ h⟩)
  · exact .inr h
theorem Step.ro (s : Step μ H μ' H') {a : Addr} {xs : List V} (h : RoAt K H a xs) : RoAt K H' a xs := by
  rcases h with ⟨o, h⟩ | h
  · exact .inl ⟨o, s.frz _ _ _ h⟩
  · exact .inr h
theorem RoAt.sql {a : Addr} {xs : List V} (h : RoAt K H a xs) : SqL K H a xs := by
  rcases h with ⟨o, h⟩ | h
  · exact .inl (.inr ⟨o, h⟩)
  · exact .inr h
structure Ext (μ : List Addr) (H : Hp) (μ' : List Addr) (H' : Hp) : Prop where
  get : ∀ (n : Nat) a, μ[n]? = some a → μ'[n]? = some a
  tup : ∀ a xs, H a = some (.tup xs) → H' a = some (.tup xs)
  frz : ∀ a o u, H a = some (.frz o u) → H' a = some (.frz o u)
theorem Step.ext (s : Step μ H μ' H') : Ext μ H μ' H' := ⟨fun _ _ h => s.get h, s.tup, s.frz⟩
theorem Ext.add {a : Addr} : Ext μ H (μ ++ [a]) H := ⟨fun n x h => by rw [List.getElem?_append_left (List.getElem?_eq_some_iff.mp h).1]; exact h, fun _ _ h => h, fun _ _ _ h => h⟩
theorem Ext.sqt (s : Ext μ H μ' H') {a : Addr} {xs : List V} (h : SqT K H a xs) : SqT K H' a xs := by
  rcases h with (h | ⟨o, h⟩) | h
  · exact .inl (.inl (s.tup _ _ h))
  · exact .inl (.inr ⟨o, s.frz _ _ _ h⟩)
  · exact .inr h
theorem Ext.ro (s : Ext μ H μ' H') {a : Addr} {xs : List V} (h : RoAt K H a xs) : RoAt K H' a xs := by
  rcases h with ⟨o, h⟩ | h
  · exact .inl ⟨o, s.frz _ _ _ h⟩
  · exact .inr h
mutual
theorem Rv.ext (s : Ext μ H μ' H') : ∀ (d : D) {v : V}, Rv K μ H v d → Rv K μ' H' v d
  | .non, _, h => by unfold Rv at *; exact h
  | .ty t, _, h => by unfold Rv at *; exact h
  | .bl b, _, h => by unfold Rv at *; exact h
  | .int i, _, h => by unfold Rv at *; exact h
  | .str x, _, h => by unfold Rv at *; exact h
  | .tup ds, _, h => by
    unfold Rv at *
    obtain ⟨a, vs, e, q, r⟩ := h
    exact ⟨a, vs, e, s.tup _ _ q, Rvs.ext s ds r⟩
  | .kt ds, _, h => by
    unfold Rv at *
    obtain ⟨a, vs, e, q, r⟩ := h
    exact ⟨a, vs, e, s.sqt q, Rvs.ext s ds r⟩
  | .rol ds, _, h => by
    unfold Rv at *
    obtain ⟨a, vs, e, q, r⟩ := h
    exact ⟨a, vs, e, s.ro q, Rvs.ext s ds r⟩
  | .loc n, _, h => by
    unfold Rv at *
    obtain ⟨a, e, q⟩ := h
    exact ⟨a, e, s.get _ _ q⟩
theorem Rvs.ext (s : Ext μ H μ' H') : ∀ (ds : List D) {vs : List V}, Rvs K μ H vs ds → Rvs K μ' H' vs ds
  | [], _, h => by unfold Rvs at *; exact h
  | d :: ds, _, h => by
    unfold Rvs at *
    obtain ⟨v, r, e, h1, h2⟩ := h
    exact ⟨v, r, e, Rv.ext s d h1, Rvs.ext s ds h2⟩
end
theorem Rv.mono (s : Step μ H μ' H') (d : D) {v : V} (h : Rv K μ H v d) : Rv K μ' H' v d := Rv.ext s.ext d h
theorem Rvs.mono (s : Step μ H μ' H') (ds : List D) {vs : List V} (h : Rvs K μ H vs ds) : Rvs K μ' H' vs ds := Rvs.ext s.ext ds h
theorem Rkv.ext {κ : Type} (s : Ext μ H μ' H') {a : List (κ × V)} {b : List (κ × D)} (h : Rkv K μ H a b) : Rkv K μ' H' a b := by
  unfold Rkv at *
  exact Paired.mapP h fun p q z => ⟨z.1, Rv.ext s _ z.2⟩
theorem Rkv.mono {κ : Type} (s : Step μ H μ' H') {a : List (κ × V)} {b : List (κ × D)} (h : Rkv K μ H a b) : Rkv K μ' H' a b := h.ext s.ext
/-- the object at a is as it was -/
theorem RepO.ext (s : Ext μ H μ' H') {a : Addr} (hs : ∀ u, H a = some u → H' a = some u) {o : O} (h : RepO K μ H a o) : RepO K μ' H' a o := by
  cases o with
  | lst ds => obtain ⟨vs, e, r⟩ := h; exact ⟨vs, hs _ e, Rvs.ext s ds r⟩
  | dk ks => obtain ⟨vs, e, r⟩ := h; exact ⟨vs, hs _ e, r.ext s⟩
  | dt ks => obtain ⟨vs, e, r⟩ := h; exact ⟨vs, hs _ e, r.ext s⟩
theorem RvE.mono (s : Step μ H μ' H') {σ : L2.St} {ρ : En} (h : RvE K μ H σ ρ) : RvE K μ' H' σ ρ := ⟨h.1, fun i d e => by
  obtain ⟨v, e1, r⟩ := h.2 i d e
  exact ⟨v, e1, Rv.mono s d r⟩⟩
/-- an object that is not one of the store's stays -/
theorem RepO.stay (s : Step μ H μ' H') {a : Addr} (ha : a ∉ μ) {o : O} (h : RepO K μ H a o) : RepO K μ' H' a o := by
  cases o with
  | lst ds => obtain ⟨vs, e, r⟩ := h; exact ⟨vs, s.oth _ _ e ha, Rvs.mono s ds r⟩
  | dk ks => obtain ⟨vs, e, r⟩ := h; exact ⟨vs, s.oth _ _ e ha, Rkv.mono s r⟩
  | dt ks => obtain ⟨vs, e, r⟩ := h; exact ⟨vs, s.oth _ _ e ha, Rkv.mono s r⟩
theorem RepO.has {a : Addr} {o : O} (h : RepO K μ H a o) : ∃ u, H a = Option.some u := by
  cases o with
  | lst ds => obtain ⟨vs, e, r⟩ := h; exact ⟨_, e⟩
  | dk ks => obtain ⟨vs, e, r⟩ := h; exact ⟨_, e⟩
  | dt ks => obtain ⟨vs, e, r⟩ := h; exact ⟨_, e⟩
theorem RvR.mono (s : Step μ H μ' H') {v : V} {r : R} (h : RvR K μ H H0 v r) : RvR K μ' H' H0 v r := by
  cases r with
  | val d => exact Rv.mono s d h
  | new o =>
    obtain ⟨a, e, f, n, q⟩ := h
    refine ⟨a, e, f, ?_, q.stay s n⟩
    obtain ⟨u, hu⟩ := q.has
    obtain ⟨ν, e2, f2⟩ := s.pre
    rw [e2]
    intro z
    rcases List.mem_append.mp z with z | z
    · exact n z
    · rw [f2 a z] at hu; cases hu
theorem RvR.back (s : Step μ1 H1 μ H0) {v : V} {r : R} (h : RvR K μ' H' H0 v r) : RvR K μ' H' H1 v r := by
  cases r with
  | val d => exact h
  | new o =>
    obtain ⟨a, e, f, n, q⟩ := h
    exact ⟨a, e, s.free a f, n, q⟩
end

/-! ### ends -/
def Apart (v : V) (r : R) (vs : List V) (rs : List R) : Prop := (∃ o, r = .new o) → ∀ (i : Nat) w o, vs[i]? = some w → rs[i]? = some (.new o) → w ≠ v
def RvRs (K : PySem.W.Frag) (μ : List Addr) (H H0 : Hp) : List V → List R → Prop
  | [], [] => True
  | v :: vs, r :: rs => RvR K μ H H0 v r ∧ RvRs K μ H H0 vs rs ∧ Apart v r vs rs
  | _, _ => False
section
variable {K : PySem.W.Frag} {μ μ' μ1 μ2 : List Addr} {H H' H1 H2 H0 : Hp}
theorem RvRs.mono (s : Step μ H μ' H') : ∀ {vs : List V} {rs : List R}, RvRs K μ H H0 vs rs → RvRs K μ' H' H0 vs rs
  | [], [], h => h
  | v :: vs, r :: rs, h => ⟨h.1.mono s, RvRs.mono s h.2.1, h.2.2⟩
theorem RvRs.back (s : Step μ1 H1 μ H0) : ∀ {vs : List V} {rs : List R}, RvRs K μ' H' H0 vs rs → RvRs K μ' H' H1 vs rs
  | [], [], h => h
  | v :: vs, r :: rs, h => ⟨h.1.back s, RvRs.back s h.2.1, h.2.2⟩
theorem RvRs.len : ∀ {vs : List V} {rs : List R}, RvRs K μ H H0 vs rs → vs.length = rs.length
  | [], [], _ => rfl
  | v :: vs, r :: rs, h => congrArg (· + 1) (RvRs.len h.2.1)
  | [], _ :: _, h => h.elim
  | _ :: _, [], h => h.elim
theorem RvRs.get : ∀ {vs : List V} {rs : List R} {i : Nat} {w : V} {r : R}, RvRs K μ H H0 vs rs → vs[i]? = some w → rs[i]? = some r → RvR K μ H H0 w r
  | v :: vs, r :: rs, 0, _, _, h, e1, e2 => by
    simp at e1 e2
    subst e1; subst e2
    exact h.1
  | v :: vs, r :: rs, i + 1, _, _, h, e1, e2 => RvRs.get h.2.1 (by simpa using e1) (by simpa using e2)
  | [], [], _, _, _, _, e1, _ => by simp at e1
/-- the fresh ones get places -/
def allocs : List R → Sto → List D × Sto
  | [], st => ([], st)
  | .val d :: rs, st => let p := allocs rs st; (d :: p.1, p.2)
  | .new o :: rs, st => let p := allocs rs (st ++ [o]); (.loc st.length :: p.1, p.2)
theorem Step.add (s : Step μ H μ' H') {a : Addr} (h : H a = none) : Step μ H (μ' ++ [a]) H' := by
  obtain ⟨ν, e, f⟩ := s.pre
  refine ⟨⟨ν ++ [a], by rw [e, List.append_assoc], fun x hx => ?_⟩, s.tup, s.frz, s.oth, s.free⟩
  rcases List.mem_append.mp hx with z | z
  · exact f x z
  · rw [List.mem_singleton.mp z]; exact h
theorem getE_snoc {α : Type} {l : List α} {x y : α} {i : Nat} (h : (l ++ [x])[i]? = some y) : l[i]? = some y ∨ (i = l.length ∧ y = x) := by
  rcases Nat.lt_or_ge i l.length with g | g
  · rw [List.getElem?_append_left g] at h; exact .inl h
  · rw [List.getElem?_append_right g] at h
    have : i - l.length = 0 := by
      rcases Nat.eq_zero_or_pos (i - l.length) with z | z
      · exact z
      · rw [List.getElem?_eq_none (by simp; omega)] at h; cases h
    rw [this] at h
    simp at h
    exact .inr ⟨by omega, h.symm⟩
theorem Rep.add {st : Sto} (h : Rep K μ H st) {a : Addr} {o : O} (ha : a ∉ μ) (r : RepO K μ H a o) : Rep K (μ ++ [a]) H (st ++ [o]) := by
  refine ⟨by simp [h.len], fun i u e => ?_, fun i j x g1 g2 => ?_⟩
  · rcases getE_snoc e with z | ⟨z1, z2⟩
    · obtain ⟨x, q, p⟩ := h.obj i u z
      exact ⟨x, Ext.add (H := H) |>.get _ _ q, p.ext Ext.add fun _ z => z⟩
    · subst z2
      refine ⟨a, ?_, r.ext Ext.add fun _ z => z⟩
      rw [z1, ← h.len, List.getElem?_append_right (Nat.le_refl _)]
      simp
  · rcases getE_snoc g1 with z1 | ⟨z1, z1'⟩ <;> rcases getE_snoc g2 with z2 | ⟨z2, z2'⟩
    · exact h.inj i j x z1 z2
    · exact absurd (List.mem_of_getElem? z1) (by rw [z2']; exact ha)
    · exact absurd (List.mem_of_getElem? z2) (by rw [z1']; exact ha)
    · omega
theorem RvR.add {a : Addr} {v : V} {r : R} (h : RvR K μ H H0 v r) (hn : (∃ o, r = .new o) → v ≠ .ref a) : RvR K (μ ++ [a]) H H0 v r := by
  cases r with
  | val d => exact Rv.ext Ext.add d h
  | new o =>
    obtain ⟨x, e, f, n, q⟩ := h
    refine ⟨x, e, f, fun z => ?_, q.ext Ext.add fun _ z => z⟩
    rcases List.mem_append.mp z with z | z
    · exact n z
    · exact hn ⟨o, rfl⟩ (by rw [e, List.mem_singleton.mp z])
theorem RvRs.add {a : Addr} : ∀ {vs : List V} {rs : List R}, RvRs K μ H H0 vs rs → (∀ (i : Nat) w o, vs[i]? = some w → rs[i]? = some (.new o) → w ≠ .ref a) → RvRs K (μ ++ [a]) H H0 vs rs
  | [], [], h, _ => h
  | v :: vs, r :: rs, h, n => ⟨h.1.add fun ⟨o, e⟩ => n 0 v o rfl (by rw [e]; rfl), RvRs.add h.2.1 (fun i w o e1 e2 => n (i + 1) w o e1 e2), h.2.2⟩
/-- all fresh ones get places -/
theorem allocs_ok : ∀ {rs : List R} {vs : List V} {μ : List Addr} {st : Sto}, Step μ1 H0 μ H → Rep K μ H st → RvRs K μ H H0 vs rs →
    ∃ μ', Step μ1 H0 μ' H ∧ Rep K μ' H (allocs rs st).2 ∧ Rvs K μ' H vs (allocs rs st).1 ∧ Ext μ H μ' H
  | [], [], μ, st, s, p, _ => ⟨μ, s, p, by unfold allocs Rvs; rfl, Step.refl.ext⟩
  | .val d :: rs, v :: vs, μ, st, s, p, h => by
    obtain ⟨μ', s', p', r', x'⟩ := allocs_ok s p h.2.1
    refine ⟨μ', s', p', ?_, x'⟩
    unfold allocs Rvs
    exact ⟨v, vs, rfl, Rv.ext x' d h.1, r'⟩
  | .new o :: rs, v :: vs, μ, st, s, p, h => by
    obtain ⟨⟨a, e, f, n, q⟩, h2, h3⟩ := h
    subst e
    have p1 := p.add n q
    have h4 := h2.add (a := a) (fun i w o' e1 e2 => h3 ⟨o, rfl⟩ i w o' e1 e2)
    obtain ⟨μ', s', p', r', x'⟩ := allocs_ok (s.add f) p1 h4
    have ga : μ'[st.length]? = some a := x'.get _ _ (by rw [← p.len, List.getElem?_append_right (Nat.le_refl _)]; simp)
    refine ⟨μ', s', p', ?_, ⟨fun n y z => x'.get _ _ (Ext.add (H := H) |>.get _ _ z), x'.tup, x'.frz⟩⟩
    unfold allocs Rvs
    refine ⟨.ref a, vs, rfl, ?_, r'⟩
    unfold Rv
    exact ⟨a, rfl, ga⟩
end
section
variable (K : PySem.W.Frag) (mg : Str → Option Value) (E : XK)
def ExcOk (c : Str) (H : Hp) : Prop := ∃ C, mg c = some (.ref C) ∧ E (.ref C) none H
def FinG {α β : Type} (Rel : List Addr → Hp → Hp → β → α → Prop) (μ : List Addr) (H : Hp) (out : Out α) (Q : β → Hp → Prop) : Prop :=
  match out with
  | .ok r st => ∀ v μ' H', Step μ H μ' H' → Rep K μ' H' st → Rel μ' H' H v r → Q v H'
  | .exc c st => ∀ μ' H', Step μ H μ' H' → Rep K μ' H' st → ExcOk mg E c H'
  | .bad => False
abbrev relR : List Addr → Hp → Hp → V → R → Prop := fun μ H H0 v r => RvR K μ H H0 v r
abbrev relRs : List Addr → Hp → Hp → List V → List R → Prop := fun μ H H0 v r => RvRs K μ H H0 v r
abbrev relB : List Addr → Hp → Hp → Bool → Bool → Prop := fun _ _ _ v r => v = r
abbrev Fin := FinG K mg E (relR K)
abbrev FinA := FinG K mg E (relRs K)
abbrev FinT := FinG K mg E relB
def TG' {α β : Type} (Rel : List Addr → Hp → Hp → β → α → Prop) (f : En → Sto → Out α) : L2.St → Hp → (β → Hp → Prop) → Prop :=
  fun σ H Q => ∃ μ ρ st, Rep K μ H st ∧ RvE K μ H σ ρ ∧ FinG K mg E Rel μ H (f ρ st) Q
abbrev TX (f : DE) : TE := TG' K mg E (relR K) f
abbrev TXT (f : DT) : TT := TG' K mg E relB f
abbrev TXA (f : DA) : TA := TG' K mg E (relRs K) f
end
abbrev PX (X : Cx) (E : XK) (e : Expr) (f : DE) : Prop := PE X e (TX X.K X.mg E f)
abbrev PXT (X : Cx) (E : XK) (e : Expr) (f : DT) : Prop := PT X e (TXT X.K X.mg E f)
abbrev PXA (X : Cx) (E : XK) (es : List Expr) (f : DA) : Prop := PA X es (TXA X.K X.mg E f)
theorem pe_imp {X : Cx} {e : Expr} {t t' : TE} (h : PE X e t) (i : ∀ σ H Q, t' σ H Q → t σ H Q) : PE X e t' := ⟨fun pins s σ H Q I q => h.run pins s σ H Q I (i _ _ _ q)⟩
theorem pt_imp {X : Cx} {e : Expr} {t t' : TT} (h : PT X e t) (i : ∀ σ H Q, t' σ H Q → t σ H Q) : PT X e t' := ⟨fun pins s σ H Q I q => h.run pins s σ H Q I (i _ _ _ q)⟩
theorem pw_imp {X : Cx} {e : Expr} {t t' : TT} (h : PW X e t) (i : ∀ σ H Q, t' σ H Q → t σ H Q) : PW X e t' := ⟨fun wh pins s σ H Q I q => h.run wh pins s σ H Q I (i _ _ _ q)⟩
theorem pa_imp {X : Cx} {e : List Expr} {t t' : TA} (h : PA X e t) (i : ∀ σ H Q, t' σ H Q → t σ H Q) : PA X e t' := ⟨fun pos pins s σ H Q I q => h.run pos pins s σ H Q I (i _ _ _ q)⟩
section
variable {K : PySem.W.Frag} {mg : Str → Option Value} {E : XK} {μ μ' μ1 μ2 : List Addr} {H H' H1 H2 H0 : Hp}
/-- relations that are kept -/
structure RelOk {α β : Type} (Rel : List Addr → Hp → Hp → β → α → Prop) : Prop where
  mono : ∀ {μ : List Addr} {H : Hp} {μ' : List Addr} {H' H0 : Hp} {v : β} {r : α}, Step μ H μ' H' → Rel μ H H0 v r → Rel μ' H' H0 v r
  back : ∀ {μ μ1 μ' : List Addr} {H' H0 H1 : Hp} {v : β} {r : α}, Step μ1 H1 μ H0 → Rel μ' H' H0 v r → Rel μ' H' H1 v r
theorem relR_ok : RelOk (relR K) := ⟨fun s h => h.mono s, fun s h => h.back s⟩
theorem relRs_ok : RelOk (relRs K) := ⟨fun s h => h.mono s, fun s h => h.back s⟩
theorem relB_ok : RelOk relB := ⟨fun _ h => h, fun _ h => h⟩
theorem FinG.later {α β : Type} {Rel : List Addr → Hp → Hp → β → α → Prop} (ok : RelOk Rel) (s : Step μ H μ1 H1) {out : Out α} {Q : β → Hp → Prop} (h : FinG K mg E Rel μ H out Q) : FinG K mg E Rel μ1 H1 out Q := by
  cases out with
  | ok r st => exact fun v μ' H' s' p q => h v μ' H' (s.trans s') p (ok.back s q)
  | exc c st => exact fun μ' H' s' p => h μ' H' (s.trans s') p
  | bad => exact h
/-- one thing after another -/
theorem tg_bind {α β γ δ : Type} {Rel : List Addr → Hp → Hp → β → α → Prop} {Rel2 : List Addr → Hp → Hp → δ → γ → Prop} (ok2 : RelOk Rel2) {σ : L2.St} {ρ : En} {st : Sto} {f : En → Sto → Out α} {g : α → Sto → Out γ} {Q : δ → Hp → Prop} {Q1 : β → Hp → Prop}
    (p : Rep K μ H st) (e : RvE K μ H σ ρ) (h : FinG K mg E Rel2 μ H ((f ρ st).bind g) Q)
    (k : ∀ r st1 v μ1 H1, f ρ st = .ok r st1 → Step μ H μ1 H1 → Rep K μ1 H1 st1 → RvE K μ1 H1 σ ρ → Rel μ1 H1 H v r → FinG K mg E Rel2 μ H (g r st1) Q → FinG K mg E Rel2 μ1 H1 (g r st1) Q → Q1 v H1) :
    TG' K mg E Rel f σ H Q1 := by
  refine ⟨μ, ρ, st, p, e, ?_⟩
  cases q : f ρ st with
  | ok r st1 =>
    rw [q] at h
    exact fun v μ' H' s' p' r' => k r st1 v μ' H' q s' p' (e.mono s') r' h (FinG.later ok2 s' h)
  | exc c st1 =>
    rw [q] at h
    exact h
  | bad => rw [q] at h; exact h
end
end MM
namespace MM
open PySem PySem.Spec PyProof.Rows L2
section
variable {K : PySem.W.Frag} {mg : Str → Option Value} {E : XK} {μ μ' μ1 μ2 : List Addr} {H H' H1 H2 H0 : Hp} {st : Sto}
theorem Rep.has (p : Rep K μ H st) {a : Addr} (h : a ∈ μ) : ∃ u, H a = some u := by
  obtain ⟨i, hi, e⟩ := List.mem_iff_getElem.mp h
  obtain ⟨b, e2, q⟩ := p.obj i (st[i]'(by rw [← p.len]; exact hi)) (List.getElem?_eq_getElem _)
  rw [List.getElem?_eq_getElem hi] at e2
  cases e2
  rw [← e]
  exact q.has
theorem Rep.notin (p : Rep K μ H st) {a : Addr} (h : H a = none) : a ∉ μ := fun z => by
  obtain ⟨u, e⟩ := p.has z
  rw [h] at e; cases e
/-- the store's objects are as they were -/
theorem Rep.keep (p : Rep K μ H st) (x : Ext μ H μ H') (k : ∀ a ∈ μ, ∀ u, H a = some u → H' a = some u) : Rep K μ H' st :=
  ⟨p.len, fun i o e => by
    obtain ⟨a, e1, q⟩ := p.obj i o e
    exact ⟨a, e1, q.ext x (k a (List.mem_of_getElem? e1))⟩, p.inj⟩
theorem Step.new {p : Addr} {o : HO} (h : H p = none) : Step μ H μ (upd H p o) :=
  ⟨⟨[], by simp⟩, fun a xs e => by rw [upd_ne (ne_of_none e h)]; exact e, fun a u v e => by rw [upd_ne (ne_of_none e h)]; exact e, fun a u e _ => by rw [upd_ne (ne_of_none e h)]; exact e, fun a e => by
    by_cases z : a = p
    · rw [z]; exact h
    · rw [upd_ne z] at e; exact e⟩
theorem Rep.new (p : Rep K μ H st) {a : Addr} {o : HO} (h : H a = none) : Rep K μ (upd H a o) st :=
  p.keep (Step.new h).ext fun b _ u e => by rw [upd_ne (ne_of_none e h)]; exact e
/-- an object of the store is changed -/
theorem Step.put {p : Addr} {o u : HO} (h : H p = some u) (hp : p ∈ μ) (ht : ∀ xs, u ≠ .tup xs) (hf : ∀ o v, u ≠ .frz o v) : Step μ H μ (upd H p o) :=
  ⟨⟨[], by simp⟩, fun a xs e => by rw [upd_ne (fun z => by rw [z, h] at e; cases e; exact ht _ rfl)]; exact e, fun a o' v e => by rw [upd_ne (fun z => by rw [z, h] at e; cases e; exact hf _ _ rfl)]; exact e,
    fun a u e n => by rw [upd_ne (fun z => n (by rw [z]; exact hp))]; exact e, fun a e => by
    by_cases z : a = p
    · rw [z, upd_same] at e; cases e
    · rw [upd_ne z] at e; exact e⟩
theorem Rep.put (p : Rep K μ H st) {n : Nat} {a : Addr} {o : O} {u u' : HO} (hn : μ[n]? = some a) (h : H a = some u) (ht : ∀ xs, u ≠ .tup xs) (hf : ∀ o v, u ≠ .frz o v) (q : RepO K μ (upd H a u') a o) : Rep K μ (upd H a u') (st.set n o) := by
  have hm : a ∈ μ := List.mem_of_getElem? hn
  have x := (Step.put (o := u') h hm ht hf).ext
  have hl : n < st.length := by rw [← p.len]; exact (List.getElem?_eq_some_iff.mp hn).1
  refine ⟨by simp [p.len], fun i o' e => ?_, p.inj⟩
  by_cases hi : n = i
  · subst hi
    rw [List.getElem?_set_self hl] at e
    cases e
    exact ⟨a, hn, q⟩
  · rw [List.getElem?_set_ne hi] at e
    obtain ⟨b, e1, q1⟩ := p.obj i o' e
    refine ⟨b, e1, q1.ext x fun v hv => ?_⟩
    rw [upd_ne (fun z => hi (p.inj n i a hn (by rw [← z]; exact e1)))]
    exact hv
theorem Fin.val (h : FinG K mg E (relR K) μ H (.ok (.val d) st) Q) {v : V} (p : Rep K μ H st) (r : Rv K μ H v d) : Q v H := h v μ H Step.refl p r
theorem Fin.new {o : O} {u : HO} {Q : VK} (h : FinG K mg E (relR K) μ H (.ok (.new o) st) Q) {a : Addr} (p : Rep K μ H st) (ha : H a = none) (r : RepO K μ (upd H a u) a o) : Q (.ref a) (upd H a u) :=
  h (.ref a) μ _ (Step.new ha) (p.new ha) ⟨a, rfl, ha, p.notin ha, r⟩
/-- a new tuple -/
theorem Fin.tup {ds : List D} {vs : List V} {Q : VK} (h : FinG K mg E (relR K) μ H (.ok (.val (.tup ds)) st) Q) {a : Addr} (p : Rep K μ H st) (ha : H a = none) (r : Rvs K μ H vs ds) : Q (.ref a) (upd H a (.tup vs)) := by
  refine h (.ref a) μ _ (Step.new ha) (p.new ha) ?_
  show Rv K μ _ (.ref a) (.tup ds)
  unfold Rv
  exact ⟨a, vs, rfl, upd_same, Rvs.mono (Step.new ha) ds r⟩
theorem Rvs.len : ∀ {ds : List D} {vs : List V}, Rvs K μ H vs ds → vs.length = ds.length
  | [], _, h => by unfold Rvs at h; rw [h] <;> rfl
  | d :: ds, _, h => by
    unfold Rvs at h
    obtain ⟨v, r, e, _, h2⟩ := h
    rw [e]
    exact congrArg (· + 1) (Rvs.len h2)
theorem Rvs.get : ∀ {ds : List D} {vs : List V} {i : Nat} {d : D}, Rvs K μ H vs ds → ds[i]? = some d → ∃ v, vs[i]? = some v ∧ Rv K μ H v d
  | d :: ds, _, 0, _, h, e => by
    unfold Rvs at h
    obtain ⟨v, r, e1, h1, h2⟩ := h
    simp at e
    subst e
    exact ⟨v, by rw [e1]; rfl, h1⟩
  | d :: ds, _, i + 1, _, h, e => by
    unfold Rvs at h
    obtain ⟨v, r, e1, h1, h2⟩ := h
    rw [e1]
    exact Rvs.get (i := i) h2 (by simpa using e)
  | [], _, _, _, _, e => by simp at e
theorem Rvs.get' {ds : List D} {vs : List V} {i : Nat} {v : V} (h : Rvs K μ H vs ds) (e : vs[i]? = some v) : ∃ d, ds[i]? = some d ∧ Rv K μ H v d := by
  have hl : i < ds.length := by rw [← h.len]; exact (List.getElem?_eq_some_iff.mp e).1
  obtain ⟨v', e1, r⟩ := h.get (List.getElem?_eq_getElem hl)
  rw [e] at e1; cases e1
  exact ⟨_, List.getElem?_eq_getElem hl, r⟩
theorem Rvs.append : ∀ {ds es : List D} {vs ws : List V}, Rvs K μ H vs ds → Rvs K μ H ws es → Rvs K μ H (vs ++ ws) (ds ++ es)
  | [], _, _, _, h, k => by unfold Rvs at h; rw [h]; exact k
  | d :: ds, _, _, _, h, k => by
    unfold Rvs at h
    obtain ⟨v, r, e1, h1, h2⟩ := h
    rw [e1]
    show Rvs K μ H (v :: (r ++ _)) (d :: (ds ++ _))
    unfold Rvs
    exact ⟨v, _, rfl, h1, Rvs.append h2 k⟩
theorem Rvs.nil : Rvs K μ H [] [] := by unfold Rvs; rfl
theorem Rvs.cons {v : V} {d : D} {vs : List V} {ds : List D} (h : Rv K μ H v d) (k : Rvs K μ H vs ds) : Rvs K μ H (v :: vs) (d :: ds) := by unfold Rvs; exact ⟨v, vs, rfl, h, k⟩
theorem Rvs.one {v : V} {d : D} (h : Rv K μ H v d) : Rvs K μ H [v] [d] := Rvs.cons h Rvs.nil
theorem Rvs.of : ∀ {ds : List D} {vs : List V}, vs.length = ds.length → (∀ (i : Nat) v d, vs[i]? = some v → ds[i]? = some d → Rv K μ H v d) → Rvs K μ H vs ds
  | [], [], _, _ => Rvs.nil
  | d :: ds, v :: vs, h, k => Rvs.cons (k 0 v d rfl rfl) (Rvs.of (by simpa using h) fun i v d e1 e2 => k (i + 1) v d e1 e2)
theorem Rvs.take {ds : List D} {vs : List V} (h : Rvs K μ H vs ds) (n : Nat) : Rvs K μ H (vs.take n) (ds.take n) :=
  Rvs.of (by simp [h.len]) fun i v d e1 e2 => by
    rw [List.getElem?_take] at e1 e2
    split at e1
    · rename_i hi
      rw [if_pos hi] at e2
      obtain ⟨v', e3, r⟩ := h.get e2
      rw [e1] at e3; cases e3; exact r
    · cases e1
theorem Rvs.drop {ds : List D} {vs : List V} (h : Rvs K μ H vs ds) (n : Nat) : Rvs K μ H (vs.drop n) (ds.drop n) :=
  Rvs.of (by simp [h.len]) fun i v d e1 e2 => by
    rw [List.getElem?_drop] at e1 e2
    obtain ⟨v', e3, r⟩ := h.get e2
    rw [e1] at e3; cases e3; exact r
theorem Rvs.set {ds : List D} {vs : List V} (h : Rvs K μ H vs ds) (n : Nat) {v : V} {d : D} (r : Rv K μ H v d) : Rvs K μ H (vs.set n v) (ds.set n d) :=
  Rvs.of (by simp [h.len]) fun i x y e1 e2 => by
    rw [List.getElem?_set] at e1 e2
    by_cases hi : n = i
    · rw [if_pos hi] at e1 e2
      have L := h.len
      rw [L] at e1
      split at e1
      · rename_i hl
        rw [if_pos hl] at e2
        cases e1; cases e2; exact r
      · cases e1
    · rw [if_neg hi] at e1 e2
      obtain ⟨v', e3, r⟩ := h.get e2
      rw [e1] at e3; cases e3; exact r
theorem Rvs.ints : ∀ {ns : List Int} {vs : List V}, Rvs K μ H vs (ns.map D.int) → vs = ns.map V.int
  | [], _, h => by unfold Rvs at h; exact h
  | n :: ns, _, h => by
    rw [List.map_cons] at h
    unfold Rvs at h
    obtain ⟨v, r, e1, h1, h2⟩ := h
    unfold Rv at h1
    rw [e1, h1, Rvs.ints h2]
    rfl
end

/-! ### lists that a result is -/
def asL (a : R) (st : Sto) : Option (List D) := match a with
  | .val (.loc n) => match st[n]? with
    | some (.lst ds) => some ds
    | _ => none
  | .new (.lst ds) => some ds
  | _ => none
/-- .. that is only read -/
def asLr (a : R) (st : Sto) : Option (List D) := match a with
  | .val (.rol ds) => some ds
  | a => asL a st
def asT (a : R) : Option (List D) := match a with
  | .val (.tup ds) => some ds
  | _ => none
section
variable {K : PySem.W.Frag} {mg : Str → Option Value} {E : XK} {μ μ' μ1 μ2 : List Addr} {H H' H1 H2 H0 : Hp} {st : Sto} {v : V} {a : R} {ds : List D}
theorem asL_ok (p : Rep K μ H st) (r : RvR K μ H H0 v a) (e : asL a st = some ds) : ∃ x vs, v = .ref x ∧ H x = some (.lst vs) ∧ Rvs K μ H vs ds := by
  unfold asL at e
  split at e
  · rename_i n
    split at e
    · rename_i ds' q
      cases e
      have r' : Rv K μ H v (.loc n) := r
      unfold Rv at r'
      obtain ⟨x, e1, e2⟩ := r'
      obtain ⟨y, e3, vs, e4, r4⟩ := p.obj n _ q
      rw [e2] at e3; cases e3
      exact ⟨x, vs, e1, e4, r4⟩
    · cases e
  · cases e
    obtain ⟨x, e1, _, _, vs, e4, r4⟩ := r
    exact ⟨x, vs, e1, e4, r4⟩
  · cases e
theorem asLr_ok (p : Rep K μ H st) (r : RvR K μ H H0 v a) (e : asLr a st = some ds) : ∃ x vs, v = .ref x ∧ SqL K H x vs ∧ Rvs K μ H vs ds := by
  unfold asLr at e
  split at e
  · cases e
    have r' : Rv K μ H v (.rol ds) := r
    unfold Rv at r'
    obtain ⟨x, vs, e1, e2, e3⟩ := r'
    exact ⟨x, vs, e1, e2.sql, e3⟩
  · obtain ⟨x, vs, e1, e2, e3⟩ := asL_ok p r e
    exact ⟨x, vs, e1, SqL.of e2, e3⟩
theorem asT_ok (r : RvR K μ H H0 v a) (e : asT a = some ds) : ∃ x vs, v = .ref x ∧ SqT K H x vs ∧ Rvs K μ H vs ds := by
  unfold asT at e
  split at e
  · cases e
    have r' : Rv K μ H v (.tup ds) := r
    unfold Rv at r'
    obtain ⟨a, vs, e1, q, r2⟩ := r'
    exact ⟨a, vs, e1, SqT.of q, r2⟩
  · cases e
end

/-! ### operators -/
abbrev G2 := R → R → Sto → Out R
def OpOk (K : PySem.W.Frag) (mg : Str → Option Value) (E : XK) (r : R2) (g : G2) : Prop :=
  ∀ μ H H0 st x y a b Q, Rep K μ H st → RvR K μ H H0 x a → RvR K μ H H0 y b → FinG K mg E (relR K) μ H (g a b st) Q → r x y H Q
def dBin (g : G2) (f1 f2 : DE) : DE := fun ρ st => (f1 ρ st).bind fun a st1 => (f2 ρ st1).bind fun b st2 => g a b st2
theorem tg_bin {K : PySem.W.Frag} {mg : Str → Option Value} {E : XK} {r : R2} {g : G2} {f1 f2 : DE} (hg : OpOk K mg E r g) (σ : L2.St) (H : Hp) (Q : VK) (h : TX K mg E (dBin g f1 f2) σ H Q) : tOp r (TX K mg E f1) (TX K mg E f2) σ H Q := by
  obtain ⟨μ, ρ, st, p, e, h⟩ := h
  refine tg_bind relR_ok p e h (fun r1 st1 v μ1 H1 q s1 p1 e1 rr1 h0 h1 => ?_)
  refine tg_bind relR_ok p1 e1 h1 (fun r2 st2 v2 μ2 H2 q2 s2 p2 e2 rr2 h0' h2 => ?_)
  exact hg μ2 H2 H st2 v v2 r1 r2 Q p2 (rr1.mono s2) (rr2.back s1) h2
section
variable {X : Cx} {E : XK} {a b : Expr} {f1 f2 : DE} {pos : Pos}
theorem x_op {op : Operator} {r : R2} {g : G2} (ho : OpR X (binaryOp op) r) (hg : OpOk X.K X.mg E r g) (ha : PX X E a f1) (hb : PX X E b f2) : PX X E (.BinOp a op b pos) (dBin g f1 f2) :=
  pe_imp (pe_op ho ha hb) (tg_bin hg)
theorem x_cmp {op : CmpOp} {r : R2} {g : G2} (ho : OpR X (compareOp op) r) (hg : OpOk X.K X.mg E r g) (hm : behindInMarks op b = false) (ha : PX X E a f1) (hb : PX X E b f2) : PX X E (.Compare a [op] [b] pos) (dBin g f1 f2) :=
  pe_imp (pe_cmpR ho ha hb hm) (tg_bin hg)
theorem x_ix {r : R2} {g : G2} (ho : IxR X r) (hg : OpOk X.K X.mg E r g) (hs : PlainIx b) (ha : PX X E a f1) (hb : PX X E b f2) : PX X E (.Subscript a b pos) (dBin g f1 f2) :=
  pe_imp (pe_ix ho ha hb hs) (tg_bin hg)
end
theorem OpOk.or {K : PySem.W.Frag} {mg : Str → Option Value} {E : XK} {r r' : R2} {g g' : G2} (h : OpOk K mg E r g) (h' : OpOk K mg E r' g') (c : R → R → Sto → Bool) : OpOk K mg E (fun x y H Q => r x y H Q ∨ r' x y H Q) (fun a b st => if c a b st = true then g a b st else g' a b st) := by
  intro μ H H0 st x y a b Q p ra rb f
  by_cases z : c a b st = true
  · simp only [z, if_true] at f
    exact .inl (h μ H H0 st x y a b Q p ra rb f)
  · simp only [z] at f
    exact .inr (h' μ H H0 st x y a b Q p ra rb f)

def rAddAll (K : PySem.W.Frag) : R2 := fun x y H Q => ((rI0 (fun i j => .int (i + j)) x y H Q ∨ (∃ i j, x = .str i ∧ y = .str j ∧ i.length + j.length ≤ sizeLine ∧ Q (.str (i ++ j)) H)) ∨ rCatA K x y H Q) ∨ rCat x y H Q
theorem op_addAll {X : Cx} : OpR X (binaryOp .Add) (rAddAll X.K) := ((op_add.or op_add_str).or op_catA).or op_cat
theorem big_le {n : Nat} (h : n < 1000000) : n ≤ sizeLine := by
  have e : sizeLine = 16777216 := by decide
  omega
theorem big_lt {n : Nat} (h : n < 1000000) : n < sizeLine := by
  have e : sizeLine = 16777216 := by decide
  omega
def gAdd : G2 := fun a b st => match a, b with
  | .val (.int i), .val (.int j) => .ok (.val (.int (i + j))) st
  | .val (.str x), .val (.str y) => if x.length + y.length < 1000000 then .ok (.val (.str (x ++ y))) st else .bad
  | .val (.tup xs), .val (.tup ys) => if xs.length + ys.length < 1000000 then .ok (.val (.tup (xs ++ ys))) st else .bad
  | a, b => match asL a st, asL b st with
    | some xs, some ys => if xs.length + ys.length < 1000000 then .ok (.new (.lst (xs ++ ys))) st else .bad
    | _, _ => .bad
section
variable {K : PySem.W.Frag} {mg : Str → Option Value} {E : XK} {μ : List Addr} {H H0 : Hp} {v : V}
theorem RvR.int {i : Int} (h : RvR K μ H H0 v (.val (.int i))) : v = .int i := by
  have h' : Rv K μ H v (.int i) := h
  unfold Rv at h'; exact h'
theorem RvR.bl {i : Bool} (h : RvR K μ H H0 v (.val (.bl i))) : v = .bl i := by
  have h' : Rv K μ H v (.bl i) := h
  unfold Rv at h'; exact h'
theorem RvR.str {i : Str} (h : RvR K μ H H0 v (.val (.str i))) : v = .str i := by
  have h' : Rv K μ H v (.str i) := h
  unfold Rv at h'; exact h'
theorem RvR.non (h : RvR K μ H H0 v (.val .non)) : v = .non := by
  have h' : Rv K μ H v .non := h
  unfold Rv at h'; exact h'
theorem RvR.tupH {ds : List D} (h : RvR K μ H H0 v (.val (.tup ds))) : ∃ a vs, v = .ref a ∧ H a = some (.tup vs) ∧ Rvs K μ H vs ds := by
  have h' : Rv K μ H v (.tup ds) := h
  unfold Rv at h'; exact h'
theorem RvR.tup {ds : List D} (h : RvR K μ H H0 v (.val (.tup ds))) : ∃ a vs, v = .ref a ∧ SqT K H a vs ∧ Rvs K μ H vs ds := by
  obtain ⟨a, vs, e, q, r⟩ := h.tupH
  exact ⟨a, vs, e, SqT.of q, r⟩
theorem RvR.kt {ds : List D} (h : RvR K μ H H0 v (.val (.kt ds))) : ∃ a vs, v = .ref a ∧ SqT K H a vs ∧ Rvs K μ H vs ds := by
  have h' : Rv K μ H v (.kt ds) := h
  unfold Rv at h'; exact h'
theorem RvR.loc {n : Nat} (h : RvR K μ H H0 v (.val (.loc n))) : ∃ a, v = .ref a ∧ μ[n]? = some a := by
  have h' : Rv K μ H v (.loc n) := h
  unfold Rv at h'; exact h'
theorem Rv.int' {i : Int} : Rv K μ H (.int i) (.int i) := by unfold Rv; rfl
theorem Rv.bl' {i : Bool} : Rv K μ H (.bl i) (.bl i) := by unfold Rv; rfl
theorem Rv.str' {i : Str} : Rv K μ H (.str i) (.str i) := by unfold Rv; rfl
theorem Rv.non' : Rv K μ H .non .non := by unfold Rv; rfl
theorem add_ok : OpOk K mg E (rAddAll K) gAdd := by
  intro μ H H0 st x y a b Q p ra rb f
  unfold gAdd at f
  split at f
  · exact .inl (.inl (.inl ⟨_, _, ra.int, rb.int, Fin.val f p Rv.int'⟩))
  · split at f
    · rename_i h
      exact .inl (.inl (.inr ⟨_, _, ra.str, rb.str, big_le h, Fin.val f p Rv.str'⟩))
    · exact f.elim
  · split at f
    · rename_i xs ys h
      obtain ⟨u, vs, e1, q1, r1⟩ := ra.tup
      obtain ⟨w, ws, e2, q2, r2⟩ := rb.tup
      refine .inl (.inr ⟨u, w, vs, ws, e1, e2, q1, q2, big_le (by rw [r1.len, r2.len]; exact h), fun z => ?_, fun _ z => ?_, fun _ _ t ht => Fin.tup f p ht (r1.append r2)⟩)
      · have e : xs = [] := List.eq_nil_of_length_eq_zero (by rw [← r1.len, z]; rfl)
        subst e
        rw [List.nil_append] at f
        rw [e2] at rb
        exact Fin.val f p rb
      · have e : ys = [] := List.eq_nil_of_length_eq_zero (by rw [← r2.len, z]; rfl)
        subst e
        rw [List.append_nil] at f
        rw [e1] at ra
        exact Fin.val f p ra
    · exact f.elim
  · split at f
    · rename_i xs ys ea eb
      split at f
      · rename_i h
        obtain ⟨u, vs, e1, q1, r1⟩ := asL_ok p ra ea
        obtain ⟨w, ws, e2, q2, r2⟩ := asL_ok p rb eb
        exact .inr ⟨u, w, vs, ws, e1, e2, q1, q2, big_le (by rw [r1.len, r2.len]; exact h), fun t ht => Fin.new f p ht ⟨_, upd_same, Rvs.mono (Step.new ht) _ (r1.append r2)⟩⟩
      · exact f.elim
    · exact f.elim
end
end MM
namespace MM
open PySem PySem.Spec PyProof.Rows L2
open PySem.SeqAt
open AutoSeq1 (wpAny_loadPart')
/-! ### tuple * int, all of it -/
theorem tuple_mul1 (l : Addr) (items : Array Value) (n : Nat) (dd : Option Addr) (sl : Array (Option Value)) (x : Int) (u : Tok) (c0 : (decide (x < -(2 ^ 63)) || decide (x ≥ 2 ^ 63)) = false) (c1 : (items.isEmpty || x == 1) = true) :
    Meets (Builtin.«tuple.__mul__» ⟨[.ref l, .int x u], []⟩) (fun _ R s => s.heap.get? l = some { cls := .type "tuple", dict := dd, data := .seq items n, slots := sl } ∧ R (.ok (.ret (Value.ref l))) { s with heap := s.heap, toks := s.toks }) :=
  .of_wp fun prog w A R s h => by
    obtain ⟨hp, g, d, tk, os⟩ := s
    obtain ⟨hl, h⟩ := h
    have f1 := AutoSeq1.idx_int
    wp_walk using wpAny_loadPart' hl
    repeat (first
      | (refine wpAny_ite_false (decide_eq_false (by rw [c0]; exact Bool.false_ne_true)) ?_; wp_walk using wpAny_loadPart' hl)
      | (refine wpAny_ite_true (decide_eq_true c1) ?_; wp_walk using wpAny_loadPart' hl))
    exact ⟨_, rfl, h⟩
theorem tuple_mul0 (l : Addr) (items : Array Value) (n : Nat) (dd : Option Addr) (sl : Array (Option Value)) (x : Int) (u : Tok) (c0 : (decide (x < -(2 ^ 63)) || decide (x ≥ 2 ^ 63)) = false) (c1 : (items.isEmpty || x == 1) = false) (c2 : (decide (x ≤ 0) || items.isEmpty) = true) :
    Meets (Builtin.«tuple.__mul__» ⟨[.ref l, .int x u], []⟩) (fun _ R s => s.heap.get? l = some { cls := .type "tuple", dict := dd, data := .seq items n, slots := sl } ∧ R (.ok (.ret (Value.ref s.heap.objs.size))) { s with heap := s.heap.push { cls := Value.type "tuple", data := Data.seq #[] }, toks := s.toks }) :=
  .of_wp fun prog w A R s h => by
    obtain ⟨hp, g, d, tk, os⟩ := s
    obtain ⟨hl, h⟩ := h
    have f1 := AutoSeq1.idx_int
    wp_walk using wpAny_loadPart' hl
    repeat (first
      | (refine wpAny_ite_false (decide_eq_false (by rw [c0]; exact Bool.false_ne_true)) ?_; wp_walk using wpAny_loadPart' hl)
      | (refine wpAny_ite_false (decide_eq_false (by rw [c1]; exact Bool.false_ne_true)) ?_; wp_walk using wpAny_loadPart' hl)
      | (refine wpAny_ite_true (decide_eq_true c2) ?_; wp_walk using wpAny_loadPart' hl))
    exact ⟨_, rfl, h⟩
def rRepA (K : PySem.W.Frag) : R2 := fun x y H Q => ∃ l k xs, x = .ref l ∧ y = .int k ∧ SqT K H l xs ∧ -1000000 < k ∧ k < 1000000 ∧ xs.length * k.toNat < 1000000 ∧
  (xs = [] ∨ k = 1 → Q (.ref l) H) ∧ (¬ (xs = [] ∨ k = 1) → ∀ p, H p = none → Q (.ref p) (upd H p (.tup (List.replicate k.toNat xs).flatten)))
section
variable {X : Cx}
theorem op_repA : OpR X (binaryOp .Mult) (rRepA X.K) := by
  intro pins s σ H x y v u Q I rx ry h
  obtain ⟨l, k, xs, rfl, rfl, hT, h1, h2, hz, q0, q⟩ := h
  cases rx
  obtain ⟨t, rfl⟩ := ry
  obtain ⟨its, r, ⟨⟨cls, dd, data, sl⟩, ho, hc, n, hd⟩, hs⟩ := I.tuple hT
  simp only at hc hd
  subst hc hd
  have hle : its.length = xs.length := r.length.symm
  have hsz0 : its.toArray.size = xs.length := by rw [List.size_toArray, hle]
  have c0 : (decide (k < -(2 ^ 63)) || decide (k ≥ 2 ^ 63)) = false := by
    rw [decide_eq_false (by omega), decide_eq_false (by omega)] <;> rfl
  by_cases hb : xs = [] ∨ k = 1
  · have c1 : (its.toArray.isEmpty || k == 1) = true := by
      rcases hb with e | e
      · have : its = [] := List.eq_nil_of_length_eq_zero (by rw [hle, e]; rfl)
        subst this
        rfl
      · rw [e]; simp
    refine wpAny_binaryOp_repeat_ref (T := "tuple") (U := "int") (by decide) ⟨_, ho, rfl⟩ (fun s' => typeIs_int s' k t) noFill_tuple_mul F.fills_int_mul F.slot_int_rmul repeat_tuple F.slot_int_index.lookup
      (call_meets F.slot_int_rmul (typeIs_int s k t) F.entry_int_rmul (F.args_int_rmul_2 _ _) (int_rmul_tuple k t l its.toArray n dd sl)
        ⟨ho, rfl, ⟨_, ho, rfl⟩, call_meets F.slot_tuple_mul ⟨_, ho, rfl⟩ F.entry_tuple_mul (F.args_tuple_mul_2 _ _) (tuple_mul1 l its.toArray n dd sl k t c0 c1) ⟨ho, ?_⟩⟩)
    exact ⟨.ref l, H, I, rfl, q0 hb⟩
  · have q := q hb
    have hne : xs ≠ [] := fun e => hb (.inl e)
    have hk1 : k ≠ 1 := fun e => hb (.inr e)
    have hi : its.toArray.isEmpty = false := by
      cases its with
      | nil => exact absurd (List.eq_nil_of_length_eq_zero hle.symm) hne
      | cons a b => rfl
    have c1 : (its.toArray.isEmpty || k == 1) = false := by
      rw [hi, Bool.false_or]
      exact beq_eq_false_iff_ne.mpr hk1
    by_cases hk : k ≤ 0
    · have c2 : (decide (k ≤ 0) || its.toArray.isEmpty) = true := by rw [decide_eq_true hk]; rfl
      refine wpAny_binaryOp_repeat_ref (T := "tuple") (U := "int") (by decide) ⟨_, ho, rfl⟩ (fun s' => typeIs_int s' k t) noFill_tuple_mul F.fills_int_mul F.slot_int_rmul repeat_tuple F.slot_int_index.lookup
        (call_meets F.slot_int_rmul (typeIs_int s k t) F.entry_int_rmul (F.args_int_rmul_2 _ _) (int_rmul_tuple k t l its.toArray n dd sl)
          ⟨ho, rfl, ⟨_, ho, rfl⟩, call_meets F.slot_tuple_mul ⟨_, ho, rfl⟩ F.entry_tuple_mul (F.args_tuple_mul_2 _ _) (tuple_mul0 l its.toArray n dd sl k t c0 c1 c2) ⟨ho, ?_⟩⟩)
      have ek : k.toNat = 0 := by omega
      rw [ek] at q
      refine ⟨.ref s.heap.objs.size, _, I.laid (t' := s.toks) (o := .tup []) (fun b ob q => Heap.get?_push_of_some _ q) (Nat.le_refl _) ?_, rfl, q _ (I.hok.fresh (Nat.le_refl _))⟩
      exact ⟨Nat.zero_le _, [], Paired.nil, IsTup.new _ _⟩
    · have flen : (List.replicate k.toNat its).flatten.length ≤ sizeLine := by
        rw [PyProof.Rows.lm_len_rep_flat, hle, sizeLine_eq, Nat.mul_comm]
        omega
      have c2 : (decide (k ≤ 0) || its.toArray.isEmpty) = false := by
        rw [hi, Bool.or_false]
        exact decide_eq_false (by omega)
      have hm : ((its.toArray.size : Nat) : Int) * k < 1000000 := by
        rw [hsz0]
        have e : k = (k.toNat : Int) := by omega
        rw [e, ← Int.natCast_mul]
        omega
      have c4 : Builtin.Tuple.tupleTooMany (((its.toArray.size : Nat) : Int) * k) = false := by
        unfold Builtin.Tuple.tupleTooMany
        rw [sizeLine_eq]
        exact decide_eq_false (by omega)
      refine wpAny_binaryOp_repeat_ref (T := "tuple") (U := "int") (by decide) ⟨_, ho, rfl⟩ (fun s' => typeIs_int s' k t) noFill_tuple_mul F.fills_int_mul F.slot_int_rmul repeat_tuple F.slot_int_index.lookup
        (call_meets F.slot_int_rmul (typeIs_int s k t) F.entry_int_rmul (F.args_int_rmul_2 _ _) (int_rmul_tuple k t l its.toArray n dd sl)
          ⟨ho, rfl, ⟨_, ho, rfl⟩, call_meets F.slot_tuple_mul ⟨_, ho, rfl⟩ F.entry_tuple_mul (F.args_tuple_mul_2 _ _) (tuple_mulW l its.toArray n dd sl k t c0 c1 c2 (by omega) c4 (by rw [size_rep, List.size_toArray]; exact flen)) ⟨ho, ?_⟩⟩)
      rw [size_rep]
      refine ⟨.ref s.heap.objs.size, _, I.laid (t' := s.toks) (o := .tup (List.replicate k.toNat xs).flatten) (fun b ob q => Heap.get?_push_of_some _ q) (Nat.le_refl _) ?_, rfl, q _ (I.hok.fresh (Nat.le_refl _))⟩
      exact ⟨by rw [PyProof.Rows.lm_len_rep_flat, sizeLine_eq, Nat.mul_comm]; omega, _, r.rep k.toNat, IsTup.new _ _⟩
end
end MM
namespace MM
open PySem PySem.Spec PyProof.Rows L2
/-! ### sum, max, min, any, all of tuples -/
section
variable {prog : Program} {w : World} {A : Around} {E : Value → Shared → Prop} {s : Shared} {l : Addr}
theorem iter_tupA {items : Array Value} {Q : Value → Shared → Prop} (hl : IsTup s.heap l items)
    (h : ∀ s₂ : Shared, s₂ = { s with heap := s.heap.push { cls := .type "tuple_iterator", data := .fields #[.ref l, .int 0 0] } } →
      (s₂.heap.IsTupleIter s.heap.objs.size l 0 ∧ s₂.heap.IsTuple l items) → (∀ b ∈ [s.heap.objs.size, l], b < s₂.heap.objs.size) → l ≠ s.heap.objs.size → Q (.ref s.heap.objs.size) s₂) :
    wpAny (model prog w) A (pyIter (.ref l)) Q E s := by
  have hlt : l < s.heap.objs.size := by obtain ⟨_, e, _⟩ := hl; exact Heap.lt_size e
  refine iter_tuple hl (h _ rfl ⟨⟨_, Heap.get?_push_size _ rfl, rfl, rfl⟩, ?_⟩ (fun b hb => ?_) (Nat.ne_of_lt hlt))
  · obtain ⟨o, e, h1, h2⟩ := hl
    exact ⟨o, Heap.get?_push_of_some _ e, h1, h2⟩
  · show b < (s.heap.push _).objs.size
    rw [Heap.size_push]
    rcases List.mem_cons.mp hb with rfl | hb
    · exact Nat.lt_succ_self _
    · rcases List.mem_cons.mp hb with rfl | hb
      · exact Nat.lt_succ_of_lt hlt
      · cases hb
theorem old_keptT {h' : Heap} (hk : ∀ b o, b ∉ [s.heap.objs.size] → (s.heap.push { cls := .type "tuple_iterator", data := .fields #[.ref l, .int 0 0] }).get? b = some o → h'.get? b = some o) :
    ∀ b o, s.heap.get? b = some o → h'.get? b = some o := fun b o e => by
  refine hk b o (fun hm => ?_) (Heap.get?_push_of_some _ e)
  rcases List.mem_cons.mp hm with e1 | hm
  · exact absurd (e1 ▸ Heap.lt_size e) (Nat.lt_irrefl _)
  · cases hm
theorem sum_rawT {its : List Value} {ns : List Int} {Q : Value → Shared → Prop} (hh : A.handled = none) (hl : IsTup s.heap l its.toArray) (hi : IntsAre its ns)
    (h : ∀ h' tk t', (∀ b o, s.heap.get? b = some o → h'.get? b = some o) → Q (.int ns.sum t') { s with heap := h', toks := tk }) : wpAny (model prog w) A (call (.builtin "sum") [.ref l]) Q E s := by
  obtain ⟨xs, e⟩ := hi.allInts.items
  have hn : numsOf (intItems xs).toList = ns := by rw [← e]; exact hi.numsOf
  rw [nums_intItems] at hn
  rw [e] at hl
  refine call_sum_walkG (iter_tupA hl fun s₂ e st hfp hlI => ?_)
  subst e
  refine ⟨_, _, _, _, _, _, numAt xs, rfl, Walks.tuple (A := A.in1) hh _ l hlI (intItems xs), st, hfp, (fun _ _ => intItems_at), fun h' tk t' hk => ?_⟩
  have := h h' tk t' (old_keptT hk)
  have e2 : preSum (numAt xs) xs.size = ns.sum := by rw [preSum_eq, List.take_of_length_le (by simp), hn]
  rw [← e2] at this
  simpa [intItems] using this
theorem max_rawT {its : List Value} {ns : List Int} {Q : Value → Shared → Prop} (hh : A.handled = none) (hl : IsTup s.heap l its.toArray) (hi : IntsAre its ns) (hne : 0 < ns.length)
    (h : ∀ h' tk M t', (∀ b o, s.heap.get? b = some o → h'.get? b = some o) → M ∈ ns → (∀ a, a ∈ ns → a ≤ M) → Q (.int M t') { s with heap := h', toks := tk }) : wpAny (model prog w) A (call (.builtin "max") [.ref l]) Q E s := by
  obtain ⟨xs, e⟩ := hi.allInts.items
  have hn : numsOf (intItems xs).toList = ns := by rw [← e]; exact hi.numsOf
  rw [nums_intItems] at hn
  subst hn
  rw [e] at hl
  have hsz : 0 < xs.size := by simpa using hne
  refine call_max_walk (iter_tupA hl fun s₂ e st hfp hlI => ?_)
  subst e
  refine ⟨_, _, _, _, _, _, _, rfl, Walks.tuple (A := A.in1) hh _ l hlI (intItems xs), st, hfp, by simpa [intItems] using hsz, CmpOf.ints_gt (numAt xs) (fun _ _ => intItems_at), fun v h' tk hP hk => ?_⟩
  have hv : (intItems xs)[argBest (fun i j => decide (numAt xs i > numAt xs j)) (xs.size - 1)]? = some v := by simpa [intItems] using hP
  obtain ⟨t, rfl⟩ := intItems_at hv
  obtain ⟨h1, h2⟩ := argBest_gt (numAt xs) (xs.size - 1)
  refine h h' tk _ t (old_keptT hk) ?_ fun a ha => ?_
  · rw [numAt_eq]; exact PySem.getD_mem (by rw [List.length_map, Array.length_toList]; omega)
  · obtain ⟨j, hj, rfl⟩ := mem_getD ha
    rw [List.length_map, Array.length_toList] at hj
    rw [← numAt_eq]; exact h2 j (by omega)
theorem min_rawT {its : List Value} {ns : List Int} {Q : Value → Shared → Prop} (hh : A.handled = none) (hl : IsTup s.heap l its.toArray) (hi : IntsAre its ns) (hne : 0 < ns.length)
    (h : ∀ h' tk M t', (∀ b o, s.heap.get? b = some o → h'.get? b = some o) → M ∈ ns → (∀ a, a ∈ ns → M ≤ a) → Q (.int M t') { s with heap := h', toks := tk }) : wpAny (model prog w) A (call (.builtin "min") [.ref l]) Q E s := by
  obtain ⟨xs, e⟩ := hi.allInts.items
  have hn : numsOf (intItems xs).toList = ns := by rw [← e]; exact hi.numsOf
  rw [nums_intItems] at hn
  subst hn
  rw [e] at hl
  have hsz : 0 < xs.size := by simpa using hne
  refine call_min_walk (iter_tupA hl fun s₂ e st hfp hlI => ?_)
  subst e
  refine ⟨_, _, _, _, _, _, _, rfl, Walks.tuple (A := A.in1) hh _ l hlI (intItems xs), st, hfp, by simpa [intItems] using hsz, CmpOf.ints_lt (numAt xs) (fun _ _ => intItems_at), fun v h' tk hP hk => ?_⟩
  have hv : (intItems xs)[argBest (fun i j => decide (numAt xs i < numAt xs j)) (xs.size - 1)]? = some v := by simpa [intItems] using hP
  obtain ⟨t, rfl⟩ := intItems_at hv
  obtain ⟨h1, h2⟩ := argBest_lt (numAt xs) (xs.size - 1)
  refine h h' tk _ t (old_keptT hk) ?_ fun a ha => ?_
  · rw [numAt_eq]; exact PySem.getD_mem (by rw [List.length_map, Array.length_toList]; omega)
  · obtain ⟨j, hj, rfl⟩ := mem_getD ha
    rw [List.length_map, Array.length_toList] at hj
    rw [← numAt_eq]; exact h2 j (by omega)
end
section
variable {X : Cx}
/-- a list or a tuple -/
def SqA (K : PySem.W.Frag) (H : Hp) (a : Addr) (xs : List V) : Prop := SqL K H a xs ∨ SqT K H a xs
def rSumA (K : PySem.W.Frag) : List V → Hp → VK → Prop := fun vs H Q => ∃ (a : Addr) (ns : List Int), vs = [V.ref a] ∧ SqA K H a (ns.map V.int) ∧ Q (.int ns.sum) H
def rMaxA (K : PySem.W.Frag) : List V → Hp → VK → Prop := fun vs H Q => ∃ (a : Addr) (ns : List Int), vs = [V.ref a] ∧ SqA K H a (ns.map V.int) ∧ 0 < ns.length ∧ ∀ m, m ∈ ns → (∀ y, y ∈ ns → y ≤ m) → Q (.int m) H
def rMinA (K : PySem.W.Frag) : List V → Hp → VK → Prop := fun vs H Q => ∃ (a : Addr) (ns : List Int), vs = [V.ref a] ∧ SqA K H a (ns.map V.int) ∧ 0 < ns.length ∧ ∀ m, m ∈ ns → (∀ y, y ∈ ns → m ≤ y) → Q (.int m) H
theorem cr_sumA (hc : X.calm = true) : CallR X (.builtin "sum") (rSumA X.K) := by
  intro pins s σ H vs us Q I r h
  obtain ⟨a, ns, e, hs | hs, q⟩ := h
  · exact cr_sum hc pins s σ H vs us Q I r ⟨a, ns, e, hs, q⟩
  · subst e
    obtain ⟨its, rv, hl, _⟩ := I.tuple hs
    rw [Vals.ref1 r]
    exact sum_rawT (I.ok.hd hc) hl rv.ints fun h' tk t' hk => ⟨.int _, H, I.kept hk, ⟨_, rfl⟩, q⟩
theorem cr_maxA (hc : X.calm = true) : CallR X (.builtin "max") (rMaxA X.K) := by
  intro pins s σ H vs us Q I r h
  obtain ⟨a, ns, e, hs | hs, hne, q⟩ := h
  · exact cr_max hc pins s σ H vs us Q I r ⟨a, ns, e, hs, hne, q⟩
  · subst e
    obtain ⟨its, rv, hl, _⟩ := I.tuple hs
    rw [Vals.ref1 r]
    exact max_rawT (I.ok.hd hc) hl rv.ints hne fun h' tk m t' hk h1 h2 => ⟨.int _, H, I.kept hk, ⟨_, rfl⟩, q m h1 h2⟩
theorem cr_minA (hc : X.calm = true) : CallR X (.builtin "min") (rMinA X.K) := by
  intro pins s σ H vs us Q I r h
  obtain ⟨a, ns, e, hs | hs, hne, q⟩ := h
  · exact cr_min hc pins s σ H vs us Q I r ⟨a, ns, e, hs, hne, q⟩
  · subst e
    obtain ⟨its, rv, hl, _⟩ := I.tuple hs
    rw [Vals.ref1 r]
    exact min_rawT (I.ok.hd hc) hl rv.ints hne fun h' tk m t' hk h1 h2 => ⟨.int _, H, I.kept hk, ⟨_, rfl⟩, q m h1 h2⟩
end
end MM
namespace MM
open PySem PySem.Spec PyProof.Rows L2
/-! ### ints -/
def gI (g : Int → Int → D) : G2 := fun a b st => match a, b with
  | .val (.int i), .val (.int j) => .ok (.val (g i j)) st
  | _, _ => .bad
def gIc (c : Int → Int → Bool) (g : Int → Int → Int) : G2 := fun a b st => match a, b with
  | .val (.int i), .val (.int j) => if c i j = true then .ok (.val (.int (g i j))) st else .bad
  | _, _ => .bad
section
variable {K : PySem.W.Frag} {mg : Str → Option Value} {E : XK}
theorem i_ok {g : Int → Int → Int} : OpOk K mg E (rI0 fun i j => .int (g i j)) (gI fun i j => .int (g i j)) := by
  intro μ H H0 st x y a b Q p ra rb f
  unfold gI at f
  split at f
  · exact ⟨_, _, ra.int, rb.int, Fin.val f p Rv.int'⟩
  · exact f.elim
theorem b_ok {g : Int → Int → Bool} : OpOk K mg E (rI0 fun i j => .bl (g i j)) (gI fun i j => .bl (g i j)) := by
  intro μ H H0 st x y a b Q p ra rb f
  unfold gI at f
  split at f
  · exact ⟨_, _, ra.int, rb.int, Fin.val f p Rv.bl'⟩
  · exact f.elim
theorem ic_ok {C : Int → Int → Prop} {c : Int → Int → Bool} {g g' : Int → Int → Int} (h : ∀ i j, c i j = true → C i j ∧ g' i j = g i j) : OpOk K mg E (rI C fun i j => .int (g' i j)) (gIc c g) := by
  intro μ H H0 st x y a b Q p ra rb f
  unfold gIc at f
  split at f
  · split at f
    · rename_i i j z
      obtain ⟨h1, h2⟩ := h i j z
      refine ⟨_, _, ra.int, rb.int, h1, ?_⟩
      show Q (.int (g' i j)) H
      rw [h2]
      exact Fin.val f p Rv.int'
    · exact f.elim
  · exact f.elim
end
def gSub : G2 := gI fun i j => .int (i - j)
def cMul (i j : Int) : Bool := decide (i.natAbs.log2 + j.natAbs.log2 < 1000000)
/-- any divisor but 0 below 2 ^ 9000 -/
def CDivA (_ j : Int) : Prop := j ≠ 0 ∧ j.natAbs.log2 < 9000
def cDiv (_ j : Int) : Bool := decide (j ≠ 0 ∧ j.natAbs.log2 < 9000)
theorem op_fdivA {X : Cx} : OpR X (binaryOp .FloorDiv) (rI CDivA fun i j => .int (i.fdiv j)) := opI fun i j _ _ _ _ _ hc q => by
  exact floordiv_int hc.1 q (.inl (PyProof.noPylong_of_log2 hc.2))
def gFdiv : G2 := gIc cDiv fun i j => i.fdiv j
def gMod : G2 := gIc (fun _ j => decide (j ≠ 0)) fun i j => i.fmod j
theorem fdiv_ok {K mg E} : OpOk K mg E (rI CDivA fun i j => .int (i.fdiv j)) gFdiv := ic_ok fun i j h => ⟨show j ≠ 0 ∧ j.natAbs.log2 < 9000 from of_decide_eq_true h, rfl⟩
theorem mod_ok {K mg E} : OpOk K mg E (rI (fun _ j => j ≠ 0) fun i j => .int (i.fmod j)) gMod := ic_ok fun i j h => ⟨of_decide_eq_true h, rfl⟩
def gMul : G2 := fun a b st => match a, b with
  | .val (.int i), .val (.int j) => if cMul i j = true then .ok (.val (.int (i * j))) st else .bad
  | .val (.tup xs), .val (.int k) => if k < 1000000 ∧ -1000000 < k ∧ xs.length * k.toNat < 1000000 then .ok (.val (.tup (List.replicate k.toNat xs).flatten)) st else .bad
  | a, .val (.int k) => match asL a st with
    | some xs => if k < 1000000 ∧ -1000000 < k ∧ xs.length * k.toNat < 1000000 then .ok (.new (.lst (List.replicate k.toNat xs).flatten)) st else .bad
    | none => .bad
  | _, _ => .bad
def rMulAll (K : PySem.W.Frag) : R2 := fun x y H Q => rI CMulW (fun i j => .int (i * j)) x y H Q ∨ (rRep x y H Q ∨ rRepA K x y H Q)
theorem op_mulAll {X : Cx} : OpR X (binaryOp .Mult) (rMulAll X.K) := op_mulW.or (op_rep.or op_repA)
section
variable {K : PySem.W.Frag} {mg : Str → Option Value} {E : XK} {μ : List Addr} {H H0 : Hp} {v : V}
theorem Rvs.rep {ds : List D} {vs : List V} (h : Rvs K μ H vs ds) : ∀ k, Rvs K μ H (List.replicate k vs).flatten (List.replicate k ds).flatten
  | 0 => Rvs.nil
  | k + 1 => by
    rw [List.replicate_succ, List.replicate_succ, List.flatten_cons, List.flatten_cons]
    exact h.append (Rvs.rep h k)
theorem mul_ok : OpOk K mg E (rMulAll K) gMul := by
  intro μ H H0 st x y a b Q p ra rb f
  unfold gMul at f
  split at f
  · split at f
    · rename_i h
      exact .inl ⟨_, _, ra.int, rb.int, (by unfold CMulW; unfold cMul at h; exact of_decide_eq_true h), Fin.val f p Rv.int'⟩
    · exact f.elim
  · rename_i xs k
    split at f
    · rename_i h
      have ra' := ra
      obtain ⟨u, vs, e1, q1, r1⟩ := ra.tup
      refine .inr (.inr ⟨u, k, vs, e1, rb.int, q1, h.2.1, h.1, by rw [r1.len]; exact h.2.2, fun hw => ?_, fun hw t ht => Fin.tup f p ht (r1.rep _)⟩)
      have ed : (List.replicate k.toNat xs).flatten = xs := by
        rcases hw with e | e
        · have : xs = [] := List.eq_nil_of_length_eq_zero (by rw [← r1.len, e]; rfl)
          subst this
          exact List.eq_nil_of_length_eq_zero (by simp)
        · subst e
          simp
      rw [ed] at f
      rw [e1] at ra'
      exact Fin.val f p ra'
    · exact f.elim
  · split at f
    · rename_i xs e
      split at f
      · rename_i h
        obtain ⟨u, vs, e1, q1, r1⟩ := asL_ok p ra e
        have e7 : sizeLine = 16777216 := by decide
        refine .inr (.inl ⟨u, _, vs, e1, rb.int, q1, by omega, by omega, ?_, fun t ht => Fin.new f p ht ⟨_, upd_same, Rvs.mono (Step.new ht) _ (r1.rep _)⟩⟩)
        rw [r1.len]
        omega
      · exact f.elim
    · exact f.elim
  · exact f.elim
end
/-! ### comparisons -/
def gLt : G2 := fun a b st => match a, b with
  | .val (.int i), .val (.int j) => .ok (.val (.bl (decide (i < j)))) st
  | .val (.str i), .val (.str j) => .ok (.val (.bl (decide (i.cps.toList < j.cps.toList)))) st
  | _, _ => .bad
def rLtAll : R2 := fun x y H Q => rI0 (fun i j => .bl (decide (i < j))) x y H Q ∨ (∃ i j, x = .str i ∧ y = .str j ∧ Q (.bl (decide (i.cps.toList < j.cps.toList))) H)
theorem op_ltAll {X : Cx} : OpR X (compareOp .Lt) rLtAll := op_lt.or op_lt_str
theorem lt_ok {K mg E} : OpOk K mg E rLtAll gLt := by
  intro μ H H0 st x y a b Q p ra rb f
  unfold gLt at f
  split at f
  · exact .inl ⟨_, _, ra.int, rb.int, Fin.val f p Rv.bl'⟩
  · exact .inr ⟨_, _, ra.str, rb.str, Fin.val f p Rv.bl'⟩
  · exact f.elim
def gLe : G2 := gI fun i j => .bl (decide (i ≤ j))
def gGt : G2 := gI fun i j => .bl (decide (j < i))
def gGe : G2 := gI fun i j => .bl (decide (j ≤ i))

/-! ### equality -/
mutual
/-- data without places, as the library's data -/
def toPy : D → Option PyData
  | .non => some .none
  | .ty _ => none
  | .bl b => some (.bool b)
  | .int i => some (.int i)
  | .str x => some (.str x)
  | .tup ds => (toPys ds).map .tuple
  | .kt ds => (toPys ds).map .tuple
  | .rol ds => (toPys ds).map .list
  | .loc _ => none
def toPys : List D → Option (List PyData)
  | [] => some []
  | d :: ds => match toPy d, toPys ds with
    | some x, some xs => some (x :: xs)
    | _, _ => none
end
def toPyR (a : R) (st : Sto) : Option PyData := match a with
  | .val (.loc n) => match st[n]? with
    | some (.lst ds) => (toPys ds).map .list
    | _ => none
  | .val d => toPy d
  | .new (.lst ds) => (toPys ds).map .list
  | _ => none
section
variable {K : PySem.W.Frag} {mg : Str → Option Value} {E : XK} {μ : List Addr} {H H0 : Hp} {v : V} {st : Sto}
mutual
theorem toPy_ok : ∀ (d : D) {v : V} {x : PyData}, Rv K μ H v d → toPy d = some x → Dp K H v x
  | .non, _, _, r, e => by unfold Rv at r; unfold toPy at e; cases e; rw [r]; exact .non
  | .ty _, _, _, _, e => by unfold toPy at e; cases e
  | .bl b, _, _, r, e => by unfold Rv at r; unfold toPy at e; cases e; rw [r]; exact .bl b
  | .int b, _, _, r, e => by unfold Rv at r; unfold toPy at e; cases e; rw [r]; exact .int b
  | .str b, _, _, r, e => by unfold Rv at r; unfold toPy at e; cases e; rw [r]; exact .str b
  | .tup ds, _, _, r, e => by
    unfold Rv at r
    unfold toPy at e
    obtain ⟨a, vs, e1, q, r⟩ := r
    cases h : toPys ds with
    | none => rw [h] at e; cases e
    | some xs =>
      rw [h] at e
      cases e
      rw [e1]
      exact .tup (SqT.of q) (toPys_ok ds r h)
  | .kt ds, _, _, r, e => by
    unfold Rv at r
    unfold toPy at e
    obtain ⟨a, vs, e1, q, r⟩ := r
    cases h : toPys ds with
    | none => rw [h] at e; cases e
    | some xs =>
      rw [h] at e
      cases e
      rw [e1]
      exact .tup q (toPys_ok ds r h)
  | .rol ds, _, _, r, e => by
    unfold Rv at r
    unfold toPy at e
    obtain ⟨a, vs, e1, q, r⟩ := r
    cases h : toPys ds with
    | none => rw [h] at e; cases e
    | some xs =>
      rw [h] at e
      cases e
      rw [e1]
      exact .lst q.sql (toPys_ok ds r h)
  | .loc _, _, _, _, e => by unfold toPy at e; cases e
theorem toPys_ok : ∀ (ds : List D) {vs : List V} {xs : List PyData}, Rvs K μ H vs ds → toPys ds = some xs → DpAll K H vs xs
  | [], _, _, r, e => by unfold Rvs at r; unfold toPys at e; cases e; rw [r]; exact .nil
  | d :: ds, _, _, r, e => by
    unfold Rvs at r
    unfold toPys at e
    obtain ⟨v, vs, e1, r1, r2⟩ := r
    split at e
    · rename_i x xs h1 h2
      cases e
      rw [e1]
      exact .cons (toPy_ok d r1 h1) (toPys_ok ds r2 h2)
    · cases e
end
theorem toPyR_ok {a : R} {x : PyData} (p : Rep K μ H st) (r : RvR K μ H H0 v a) (e : toPyR a st = some x) : Dp K H v x := by
  unfold toPyR at e
  split at e
  · rename_i n
    split at e
    · rename_i ds q
      obtain ⟨u, vs, e1, q1, r1⟩ := asL_ok (a := .val (.loc n)) (ds := ds) p r (by simp only [asL, q])
      cases h : toPys ds with
      | none => rw [h] at e; cases e
      | some xs =>
        rw [h] at e
        cases e
        rw [e1]
        exact .lst (SqL.of q1) (toPys_ok ds r1 h)
    · cases e
  · exact toPy_ok _ r e
  · rename_i ds
    obtain ⟨u, vs, e1, q1, r1⟩ := asL_ok (a := .new (.lst ds)) (ds := ds) p r rfl
    cases h : toPys ds with
    | none => rw [h] at e; cases e
    | some xs =>
      rw [h] at e
      cases e
      rw [e1]
      exact .lst (SqL.of q1) (toPys_ok ds r1 h)
  · cases e
end
def shp (a b : R) (st : Sto) : Option Bool := match toPyR a st, toPyR b st with
  | some x, some y => if SeqAt.shaped x = true ∧ SeqAt.shaped y = true then some (PyData.eqv x y) else none
  | _, _ => none
def gEq : G2 := fun a b st => match a, b with
  | .val (.int i), .val (.int j) => .ok (.val (.bl (decide (i = j)))) st
  | .val (.str i), .val (.str j) => .ok (.val (.bl (decide (i = j)))) st
  | .val (.bl i), .val (.bl j) => .ok (.val (.bl (decide (i = j)))) st
  | a, b => match shp a b st with
    | some k => .ok (.val (.bl k)) st
    | none => .bad
def gNe : G2 := fun a b st => match a, b with
  | .val (.int i), .val (.int j) => .ok (.val (.bl (!decide (i = j)))) st
  | .val (.str i), .val (.str j) => .ok (.val (.bl (!decide (i = j)))) st
  | .val (.bl i), .val (.bl j) => .ok (.val (.bl (!decide (i = j)))) st
  | a, b => match shp a b st with
    | some k => .ok (.val (.bl (!k))) st
    | none => .bad
def rEqAll (K : PySem.W.Frag) : R2 := fun x y H Q => rEq x y H Q ∨ rEqD K x y H Q
def rNeAll (K : PySem.W.Frag) : R2 := fun x y H Q => rNe x y H Q ∨ rNeD K x y H Q
theorem op_eqAll {X : Cx} (hu : X.A.units + 64 < cLine) : OpR X (compareOp .Eq) (rEqAll X.K) := op_eq.or (op_eqD hu)
theorem op_neAll {X : Cx} (hu : X.A.units + 64 < cLine) : OpR X (compareOp .NotEq) (rNeAll X.K) := op_ne.or (op_neD hu)
theorem dec_congr {p q : Prop} [Decidable p] [Decidable q] (h : p ↔ q) : decide p = decide q := by
  by_cases z : p
  · rw [decide_eq_true z, decide_eq_true (h.mp z)]
  · rw [decide_eq_false z, decide_eq_false (fun y => z (h.mpr y))]
theorem vint {i j : Int} : (V.int i = V.int j) ↔ i = j := ⟨fun h => by cases h; rfl, fun h => by rw [h]⟩
theorem vstr {i j : Str} : (V.str i = V.str j) ↔ i = j := ⟨fun h => by cases h; rfl, fun h => by rw [h]⟩
theorem vbl {i j : Bool} : (V.bl i = V.bl j) ↔ i = j := ⟨fun h => by cases h; rfl, fun h => by rw [h]⟩
theorem shp_ok {K : PySem.W.Frag} {μ : List Addr} {H H0 : Hp} {st : Sto} {x y : V} {a b : R} {k : Bool} (p : Rep K μ H st) (ra : RvR K μ H H0 x a) (rb : RvR K μ H H0 y b) (e : shp a b st = some k) :
    ∃ d e, Dp K H x d ∧ Dp K H y e ∧ SeqAt.shaped d = true ∧ SeqAt.shaped e = true ∧ PyData.eqv d e = k := by
  unfold shp at e
  split at e
  · rename_i d d' h1 h2
    split at e
    · rename_i h
      cases e
      exact ⟨d, d', toPyR_ok p ra h1, toPyR_ok p rb h2, h.1, h.2, rfl⟩
    · cases e
  · cases e
theorem eq_ok {K mg E} : OpOk K mg E (rEqAll K) gEq := by
  intro μ H H0 st x y a b Q p ra rb f
  unfold gEq at f
  split at f
  · have e1 := ra.int; have e2 := rb.int; subst e1; subst e2
    exact .inl ⟨rfl, by rw [dec_congr vint]; exact Fin.val f p Rv.bl'⟩
  · have e1 := ra.str; have e2 := rb.str; subst e1; subst e2
    exact .inl ⟨rfl, by rw [dec_congr vstr]; exact Fin.val f p Rv.bl'⟩
  · have e1 := ra.bl; have e2 := rb.bl; subst e1; subst e2
    exact .inl ⟨rfl, by rw [dec_congr vbl]; exact Fin.val f p Rv.bl'⟩
  · split at f
    · rename_i k e
      obtain ⟨d, d', h1, h2, h3, h4, h5⟩ := shp_ok p ra rb e
      exact .inr ⟨d, d', h1, h2, h3, h4, by rw [h5]; exact Fin.val f p Rv.bl'⟩
    · exact f.elim
theorem ne_ok {K mg E} : OpOk K mg E (rNeAll K) gNe := by
  intro μ H H0 st x y a b Q p ra rb f
  unfold gNe at f
  split at f
  · have e1 := ra.int; have e2 := rb.int; subst e1; subst e2
    exact .inl ⟨rfl, by rw [dec_congr vint]; exact Fin.val f p Rv.bl'⟩
  · have e1 := ra.str; have e2 := rb.str; subst e1; subst e2
    exact .inl ⟨rfl, by rw [dec_congr vstr]; exact Fin.val f p Rv.bl'⟩
  · have e1 := ra.bl; have e2 := rb.bl; subst e1; subst e2
    exact .inl ⟨rfl, by rw [dec_congr vbl]; exact Fin.val f p Rv.bl'⟩
  · split at f
    · rename_i k e
      obtain ⟨d, d', h1, h2, h3, h4, h5⟩ := shp_ok p ra rb e
      exact .inr ⟨d, d', h1, h2, h3, h4, by rw [h5]; exact Fin.val f p Rv.bl'⟩
    · exact f.elim
/-! is -/
def isNon : R → Bool
  | .val .non => true
  | _ => false
def gIs : G2 := fun a b st => match a, b with
  | a, .val .non => .ok (.val (.bl (isNon a))) st
  | .val (.bl i), .val (.bl j) => .ok (.val (.bl (decide (i = j)))) st
  | _, _ => .bad
def gIsNot : G2 := fun a b st => match a, b with
  | a, .val .non => .ok (.val (.bl (!isNon a))) st
  | .val (.bl i), .val (.bl j) => .ok (.val (.bl (!decide (i = j)))) st
  | _, _ => .bad
def rIsAll : R2 := fun x y H Q => (y = .non ∧ Q (.bl (decide (x = .non))) H) ∨ ∃ a b, x = .bl a ∧ y = .bl b ∧ Q (.bl (decide (a = b))) H
def rIsNotAll : R2 := fun x y H Q => (y = .non ∧ Q (.bl (!decide (x = .non))) H) ∨ ∃ a b, x = .bl a ∧ y = .bl b ∧ Q (.bl (!decide (a = b))) H
theorem op_isAll {X : Cx} : OpR X (compareOp .Is) rIsAll := op_isN.or op_is_bl
theorem op_isNotAll {X : Cx} : OpR X (compareOp .IsNot) rIsNotAll := op_notN.or op_isnot_bl
theorem isNon_ok {K : PySem.W.Frag} {μ : List Addr} {H H0 : Hp} {x : V} {a : R} (r : RvR K μ H H0 x a) : decide (x = .non) = isNon a := by
  cases a with
  | new o => obtain ⟨u, e, _⟩ := r; rw [e]; rfl
  | val d =>
    cases d with
    | non => rw [r.non]; rfl
    | ty t =>
      have r' : Rv K μ H x (.ty t) := r
      unfold Rv at r'
      rw [r']; rfl
    | bl b => rw [r.bl]; rfl
    | int b => rw [r.int]; rfl
    | str b => rw [r.str]; rfl
    | tup ds => obtain ⟨u, vs, e, _⟩ := r.tup; rw [e]; rfl
    | kt ds => obtain ⟨u, vs, e, _⟩ := r.kt; rw [e]; rfl
    | rol ds =>
      have r' : Rv K μ H x (.rol ds) := r
      unfold Rv at r'
      obtain ⟨u, vs, e, _⟩ := r'
      rw [e]; rfl
    | loc n => obtain ⟨u, e, _⟩ := r.loc; rw [e]; rfl
theorem is_ok {K mg E} : OpOk K mg E rIsAll gIs := by
  intro μ H H0 st x y a b Q p ra rb f
  unfold gIs at f
  split at f
  · exact .inl ⟨rb.non, by rw [isNon_ok ra]; exact Fin.val f p Rv.bl'⟩
  · exact .inr ⟨_, _, ra.bl, rb.bl, Fin.val f p Rv.bl'⟩
  · exact f.elim
theorem isNot_ok {K mg E} : OpOk K mg E rIsNotAll gIsNot := by
  intro μ H H0 st x y a b Q p ra rb f
  unfold gIsNot at f
  split at f
  · exact .inl ⟨rb.non, by rw [isNon_ok ra]; exact Fin.val f p Rv.bl'⟩
  · exact .inr ⟨_, _, ra.bl, rb.bl, Fin.val f p Rv.bl'⟩
  · exact f.elim

/-! ### items -/
def gIx : G2 := fun a b st => match b with
  | .val (.int i) => match asLr a st with
    | some ds => match atI ds i with
      | some d => .ok (.val d) st
      | none => .bad
    | none => match a with
      | .val (.tup ds) => match atI ds i with
        | some d => .ok (.val d) st
        | none => .bad
      | .val (.kt ds) => match atI ds i with
        | some d => .ok (.val d) st
        | none => .bad
      | .val (.str z) => if z.length < 1000000 then match atI z.cps.toList i with
          | some c => .ok (.val (.str ⟨#[c]⟩)) st
          | none => .bad
        else .bad
      | _ => .bad
  | _ => .bad
theorem atI_rel {K : PySem.W.Frag} {μ : List Addr} {H : Hp} {vs : List V} {ds : List D} {i : Int} {d : D} (r : Rvs K μ H vs ds) (e : atI ds i = some d) : ∃ v, atI vs i = some v ∧ Rv K μ H v d := by
  unfold atI at *
  rw [r.len]
  cases h : ixN ds.length i with
  | none => rw [h] at e; cases e
  | some j =>
    rw [h] at e
    obtain ⟨v, e1, r1⟩ := r.get (show ds[j]? = some d from e)
    exact ⟨v, e1, r1⟩
theorem ix_ok {K mg E} : OpOk K mg E (rIx K) gIx := by
  intro μ H H0 st x y a b Q p ra rb f
  unfold gIx at f
  split at f
  · rename_i i
    split at f
    · rename_i ds e
      split at f
      · rename_i d q
        obtain ⟨u, vs, e1, q1, r1⟩ := asLr_ok p ra e
        obtain ⟨v, q2, r2⟩ := atI_rel r1 q
        exact .inl ⟨u, vs, i, v, e1, rb.int, q1, q2, Fin.val f p r2⟩
      · exact f.elim
    · split at f
      · rename_i ds _
        split at f
        · rename_i d q
          obtain ⟨u, vs, e1, q1, r1⟩ := ra.tup
          obtain ⟨v, q2, r2⟩ := atI_rel r1 q
          exact .inr (.inl ⟨u, vs, i, v, e1, rb.int, q1, q2, Fin.val f p r2⟩)
        · exact f.elim
      · rename_i ds _
        split at f
        · rename_i d q
          obtain ⟨u, vs, e1, q1, r1⟩ := ra.kt
          obtain ⟨v, q2, r2⟩ := atI_rel r1 q
          exact .inr (.inl ⟨u, vs, i, v, e1, rb.int, q1, q2, Fin.val f p r2⟩)
        · exact f.elim
      · split at f
        · rename_i h
          split at f
          · rename_i c q
            exact .inr (.inr ⟨_, i, c, ra.str, rb.int, big_le h, q, Fin.val f p Rv.str'⟩)
          · exact f.elim
        · exact f.elim
      · exact f.elim
  · exact f.elim
end MM
namespace MM
open PySem PySem.Spec PyProof.Rows L2
/-! ### names, constants -/
def dC (d : D) : DE := fun _ st => .ok (.val d) st
def dV (i : Nat) : DE := fun ρ st => match ρ[i]? with
  | some (some d) => .ok (.val d) st
  | _ => .bad
/-- data that stands whatever the heap is -/
def Always (K : PySem.W.Frag) (v : V) (d : D) : Prop := ∀ μ H, Rv K μ H v d
theorem tg_c {K : PySem.W.Frag} {mg : Str → Option Value} {E : XK} {v : V} {d : D} (r : Always K v d) (σ : L2.St) (H : Hp) (Q : VK) (h : TX K mg E (dC d) σ H Q) : tC v σ H Q := by
  obtain ⟨μ, ρ, st, p, e, h⟩ := h
  exact Fin.val h p (r μ H)
section
variable {X : Cx} {E : XK} {a b c : Expr} {f1 f2 f3 : DE} {t1 t2 : DT} {pos : Pos}
theorem x_int {i j} : PX X E (.Constant (.int i) j pos) (dC (.int i)) := pe_imp pe_int (tg_c fun _ _ => Rv.int')
theorem x_bl {i j} : PX X E (.Constant (.bool i) j pos) (dC (.bl i)) := pe_imp pe_bl (tg_c fun _ _ => Rv.bl')
theorem x_non {j} : PX X E (.Constant .none j pos) (dC .non) := pe_imp pe_non (tg_c fun _ _ => Rv.non')
theorem x_str {i j} : PX X E (.Constant (.str i) j pos) (dC (.str i)) := pe_imp pe_str (tg_c fun _ _ => Rv.str')
theorem x_glob {x : Str} {v : V} {u : Value} {d : D} (hg : Gl X x) (hm : X.mg x = some u) (r : RelV v u) (al : Always X.K v d) (hd : (x == ("__debug__" : Str)) = false := by decide) : PX X E (.Name x pos) (dC d) := pe_imp (pe_glob hg hm r hd) (tg_c al)
theorem tg_v {K : PySem.W.Frag} {mg : Str → Option Value} {E : XK} {i : Nat} (σ : L2.St) (H : Hp) (Q : VK) (h : TX K mg E (dV i) σ H Q) : tVar i σ H Q := by
  obtain ⟨μ, ρ, st, p, e, h⟩ := h
  unfold dV at h
  split at h
  · rename_i d q
    obtain ⟨v, e1, r⟩ := e.2 i d q
    exact ⟨v, e1, Fin.val h p r⟩
  · exact h.elim
theorem xv (i : Nat) {x : Str} (hN : X.N[i]? = some x := by rfl) (hv : Vis X.env.scope x := by first | exact Or.inl rfl | exact Or.inr (Or.inl rfl) | exact Or.inr (Or.inr rfl)) (hd : (x == ("__debug__" : Str)) = false := by decide)
    (hcd : (x == ("__classdict__" : Str)) = false := by decide) : PX X E (.Name x pos) (dV i) := pe_imp (pe_var hN hv hd hcd) tg_v

/-! ### signs, truths -/
def dUn (g : R → Sto → Out R) (f : DE) : DE := fun ρ st => (f ρ st).bind g
def gNeg : R → Sto → Out R := fun a st => match a with
  | .val (.int i) => .ok (.val (.int (-i))) st
  | _ => .bad
theorem x_neg (ha : PX X E a f1) : PX X E (.UnaryOp .USub a pos) (dUn gNeg f1) := pe_imp (pe_un un_neg ha) fun σ H Q h => by
  obtain ⟨μ, ρ, st, p, e, h⟩ := h
  refine tg_bind relR_ok p e h (fun r1 st1 v μ1 H1 q s1 p1 e1 rr1 h0 h1 => ?_)
  unfold gNeg at h1
  split at h1
  · exact ⟨_, rr1.int, Fin.val h1 p1 Rv.int'⟩
  · exact h1.elim
/-- a value that is a truth -/
def gB : R → Sto → Out Bool := fun a st => match a with
  | .val (.bl b) => .ok b st
  | _ => .bad
/-- a test from a value that is a truth -/
def tOfB (f : DE) : DT := fun ρ st => (f ρ st).bind gB
theorem tg_tofb {K : PySem.W.Frag} {mg : Str → Option Value} {E : XK} {f : DE} (σ : L2.St) (H : Hp) (Q : Bool → Hp → Prop) (h : TXT K mg E (tOfB f) σ H Q) : tTest (TX K mg E f) σ H Q := by
  obtain ⟨μ, ρ, st, p, e, h⟩ := h
  refine tg_bind relB_ok p e h (fun r1 st1 v μ1 H1 q s1 p1 e1 rr1 h0 h1 => ?_)
  unfold gB at h1
  split at h1
  · exact ⟨_, rr1.bl, h1 _ _ _ Step.refl p1 rfl⟩
  · exact h1.elim
theorem xt_cmp {op : CmpOp} {r : R2} {g : G2} (ho : OpR X (compareOp op) r) (hg : OpOk X.K X.mg E r g) (hm : behindInMarks op b = false) (ha : PX X E a f1) (hb : PX X E b f2) : PXT X E (.Compare a [op] [b] pos) (tOfB (dBin g f1 f2)) :=
  pt_imp (pt_cmpR ho ha hb hm) fun σ H Q h => by
    obtain ⟨μ, ρ, st, p, e, h⟩ := h
    have h' := tg_tofb (K := X.K) (mg := X.mg) (E := E) (f := dBin g f1 f2) σ H Q ⟨μ, ρ, st, p, e, h⟩
    exact tg_bin hg σ H _ h'
def truth : R → Sto → Out Bool := fun a st => match a with
  | .val .non => .ok false st
  | .val (.bl b) => .ok b st
  | .val (.int i) => .ok (i != 0) st
  | .val (.str x) => if x.length < 1000000 then .ok ((x.length : Int) != 0) st else .bad
  | .val (.tup ds) => .ok (!ds.isEmpty) st
  | a => match asLr a st with
    | some ds => .ok (!ds.isEmpty) st
    | none => .bad
def tTru (f : DE) : DT := fun ρ st => (f ρ st).bind truth
theorem isEmpty_len {α β : Type} {l : List α} {m : List β} (h : l.length = m.length) : l.isEmpty = m.isEmpty := by
  cases l <;> cases m <;> simp_all
theorem tg_tru {K : PySem.W.Frag} {mg : Str → Option Value} {E : XK} {f : DE} (σ : L2.St) (H : Hp) (Q : Bool → Hp → Prop) (h : TXT K mg E (tTru f) σ H Q) : TX K mg E f σ H fun x H' => ∃ k, TruV K x H' k ∧ Q k H' := by
  obtain ⟨μ, ρ, st, p, e, h⟩ := h
  refine tg_bind relB_ok p e h (fun r1 st1 v μ1 H1 q s1 p1 e1 rr1 h0 h1 => ?_)
  unfold truth at h1
  split at h1
  · rw [rr1.non]; exact ⟨_, rfl, h1 _ _ _ Step.refl p1 rfl⟩
  · rw [rr1.bl]; exact ⟨_, rfl, h1 _ _ _ Step.refl p1 rfl⟩
  · rw [rr1.int]; exact ⟨_, rfl, h1 _ _ _ Step.refl p1 rfl⟩
  · split at h1
    · rename_i hz
      rw [rr1.str]; exact ⟨_, ⟨big_le hz, rfl⟩, h1 _ _ _ Step.refl p1 rfl⟩
    · exact h1.elim
  · obtain ⟨u, vs, e2, q2, r2⟩ := rr1.tup
    rw [e2]
    exact ⟨_, .inr (.inl ⟨vs, q2, rfl⟩), h1 _ _ _ Step.refl p1 (by rw [isEmpty_len r2.len])⟩
  · split at h1
    · rename_i ds q3
      obtain ⟨u, vs, e2, q2, r2⟩ := asLr_ok p1 rr1 q3
      rw [e2]
      exact ⟨_, .inl ⟨vs, q2, rfl⟩, h1 _ _ _ Step.refl p1 (by rw [isEmpty_len r2.len])⟩
    · exact h1.elim
theorem xt_tru (ha : PX X E a f1) (he : ∀ whole, isTrue a X.env whole = (do let v ← whole; standAt a.pos; holding [v] (truthy v)) := by intro _; rfl) : PXT X E a (tTru f1) := pt_imp (pt_truth ha he) tg_tru
def tAnd' (t1 t2 : DT) : DT := fun ρ st => (t1 ρ st).bind fun b st1 => if b = true then t2 ρ st1 else .ok false st1
def tOr' (t1 t2 : DT) : DT := fun ρ st => (t1 ρ st).bind fun b st1 => if b = true then .ok true st1 else t2 ρ st1
def tNot' (t1 : DT) : DT := fun ρ st => (t1 ρ st).bind fun b st1 => .ok (!b) st1
abbrev PXW (X : Cx) (E : XK) (e : Expr) (f : DT) : Prop := PW X e (TXT X.K X.mg E f)
variable {rest : List Expr}
theorem xw_and1 (ha : PXT X E a t1) : PXW X E (.BoolOp .And [a] pos) t1 := pw_and1 ha
theorem xw_or1 (ha : PXT X E a t1) : PXW X E (.BoolOp .Or [a] pos) t1 := pw_or1 ha
theorem xw_and (ha : PXT X E a t1) (hb : PXW X E (.BoolOp .And (b :: rest) pos) t2) : PXW X E (.BoolOp .And (a :: b :: rest) pos) (tAnd' t1 t2) := pw_imp (pw_and ha hb) fun σ H Q h => by
  obtain ⟨μ, ρ, st, p, e, h⟩ := h
  refine tg_bind relB_ok p e h (fun r1 st1 v μ1 H1 q s1 p1 e1 rr1 h0 h1 => ?_)
  cases (show v = r1 from rr1)
  cases r1 with
  | true => exact ⟨μ1, ρ, st1, p1, e1, h1⟩
  | false => exact h1 _ _ _ Step.refl p1 rfl
theorem xw_or (ha : PXT X E a t1) (hb : PXW X E (.BoolOp .Or (b :: rest) pos) t2) : PXW X E (.BoolOp .Or (a :: b :: rest) pos) (tOr' t1 t2) := pw_imp (pw_or ha hb) fun σ H Q h => by
  obtain ⟨μ, ρ, st, p, e, h⟩ := h
  refine tg_bind relB_ok p e h (fun r1 st1 v μ1 H1 q s1 p1 e1 rr1 h0 h1 => ?_)
  cases (show v = r1 from rr1)
  cases r1 with
  | false => exact ⟨μ1, ρ, st1, p1, e1, h1⟩
  | true => exact h1 _ _ _ Step.refl p1 rfl
theorem xt_w (h : PXW X E a t1) : PXT X E a t1 := h.pt
theorem xt_not (ha : PXT X E a t1) : PXT X E (.UnaryOp .Not a pos) (tNot' t1) := pt_imp (pt_not ha) fun σ H Q h => by
  obtain ⟨μ, ρ, st, p, e, h⟩ := h
  refine tg_bind relB_ok p e h (fun r1 st1 v μ1 H1 q s1 p1 e1 rr1 h0 h1 => ?_)
  cases (show v = r1 from rr1)
  exact h1 _ _ _ Step.refl p1 rfl
/-- and, or, not as values: of truths -/
def dAnd (f1 f2 : DE) : DE := fun ρ st => (f1 ρ st).bind fun a st1 => (gB a st1).bind fun b st1 => if b = true then f2 ρ st1 else .ok (.val (.bl false)) st1
def dOr (f1 f2 : DE) : DE := fun ρ st => (f1 ρ st).bind fun a st1 => (gB a st1).bind fun b st1 => if b = true then .ok (.val (.bl true)) st1 else f2 ρ st1
theorem x_one {op} (h : PX X E a f1) : PX X E (.BoolOp op [a] pos) f1 := pe_one h
theorem x_and (ha : PX X E a f1) (hb : PX X E (.BoolOp .And (b :: rest) pos) f2) : PX X E (.BoolOp .And (a :: b :: rest) pos) (dAnd f1 f2) := pe_imp (pe_and ha hb) fun σ H Q h => by
  obtain ⟨μ, ρ, st, p, e, h⟩ := h
  refine tg_bind relR_ok p e h (fun r1 st1 v μ1 H1 q s1 p1 e1 rr1 h0 h1 => ?_)
  unfold gB at h1
  split at h1
  · rename_i b
    refine ⟨b, rr1.bl, ?_⟩
    cases b with
    | true => exact ⟨μ1, ρ, st1, p1, e1, h1⟩
    | false => exact Fin.val h1 p1 Rv.bl'
  · exact h1.elim
theorem x_or (ha : PX X E a f1) (hb : PX X E (.BoolOp .Or (b :: rest) pos) f2) : PX X E (.BoolOp .Or (a :: b :: rest) pos) (dOr f1 f2) := pe_imp (pe_or ha hb) fun σ H Q h => by
  obtain ⟨μ, ρ, st, p, e, h⟩ := h
  refine tg_bind relR_ok p e h (fun r1 st1 v μ1 H1 q s1 p1 e1 rr1 h0 h1 => ?_)
  unfold gB at h1
  split at h1
  · rename_i b
    refine ⟨b, rr1.bl, ?_⟩
    cases b with
    | false => exact ⟨μ1, ρ, st1, p1, e1, h1⟩
    | true => exact Fin.val h1 p1 Rv.bl'
  · exact h1.elim
def gNot : R → Sto → Out R := fun a st => (truth a st).bind fun b st => .ok (.val (.bl (!b))) st
theorem x_not (ha : PX X E a f1) : PX X E (.UnaryOp .Not a pos) (dUn (fun a st => (gB a st).bind fun b st => .ok (.val (.bl (!b))) st) f1) := pe_imp (pe_not ha) fun σ H Q h => by
  obtain ⟨μ, ρ, st, p, e, h⟩ := h
  refine tg_bind relR_ok p e h (fun r1 st1 v μ1 H1 q s1 p1 e1 rr1 h0 h1 => ?_)
  unfold gB at h1
  split at h1
  · exact ⟨_, rr1.bl, Fin.val h1 p1 Rv.bl'⟩
  · exact h1.elim
def dIf (t : DT) (f1 f2 : DE) : DE := fun ρ st => (t ρ st).bind fun b st1 => if b = true then f1 ρ st1 else f2 ρ st1
theorem x_if (hc : PXT X E c t1) (ha : PX X E a f1) (hb : PX X E b f2) : PX X E (.IfExp c a b pos) (dIf t1 f1 f2) := pe_imp (pe_ifExp hc ha hb) fun σ H Q h => by
  obtain ⟨μ, ρ, st, p, e, h⟩ := h
  refine tg_bind relR_ok p e h (fun r1 st1 v μ1 H1 q s1 p1 e1 rr1 h0 h1 => ?_)
  cases (show v = r1 from rr1)
  cases r1 with
  | true => exact ⟨μ1, ρ, st1, p1, e1, h1⟩
  | false => exact ⟨μ1, ρ, st1, p1, e1, h1⟩
/-! a < b < c -/
def dChain (g g' : G2) (f1 f2 f3 : DE) : DE := fun ρ st => (f1 ρ st).bind fun a st1 => (f2 ρ st1).bind fun b st2 => (g a b st2).bind fun r st3 => (gB r st3).bind fun k st3 =>
  if k = true then (f3 ρ st3).bind fun c st4 => g' b c st4 else .ok (.val (.bl false)) st3
/-- an operation that leaves the heap -/
def Keeps (K : PySem.W.Frag) (mg : Str → Option Value) (E : XK) (r : R2) (g : G2) : Prop :=
  ∀ μ H H0 st x y a b (Q : VK), Rep K μ H st → RvR K μ H H0 x a → RvR K μ H H0 y b → (∃ k, g a b st = .ok (.val (.bl k)) st ∧ Q (.bl k) H) → r x y H Q
theorem OpOk.keeps {K mg E r g} (h : OpOk K mg E r g) (H0 : Hp → Prop) : True := trivial
theorem x_chain {op op' : CmpOp} {r r' : R2} {g g' : G2} (ho : OpR X (compareOp op) r) (hg : Keeps X.K X.mg E r g) (hn : ∀ a b st, (∃ k, g a b st = .ok (.val (.bl k)) st) ∨ g a b st = .bad) (ho' : OpR X (compareOp op') r') (hg' : OpOk X.K X.mg E r' g') (ha : PX X E a f1) (hb : PX X E b f2) (hc : PX X E c f3)
    (hm : lastMarks [op, op'] [b, c] = false) : PX X E (.Compare a [op, op'] [b, c] pos) (dChain g g' f1 f2 f3) := pe_imp (pe_chain ho ho' ha hb hc hm) fun σ H Q h => by
  obtain ⟨μ, ρ, st, p, e, h⟩ := h
  refine tg_bind relR_ok p e h (fun r1 st1 v μ1 H1 q s1 p1 e1 rr1 h0 h1 => ?_)
  refine tg_bind relR_ok p1 e1 h1 (fun r2 st2 v2 μ2 H2 q2 s2 p2 e2 rr2 h0' h2 => ?_)
  rcases hn r1 r2 st2 with ⟨k, ek⟩ | eb
  · rw [ek] at h2
    refine hg μ2 H2 H st2 v v2 r1 r2 _ p2 (rr1.mono s2) (rr2.back s1) ⟨k, ek, k, rfl, ?_⟩
    cases k with
    | false => exact Fin.val h2 p2 Rv.bl'
    | true =>
      show TX X.K X.mg E f3 σ H2 _
      refine tg_bind relR_ok p2 e2 h2 (fun r3 st3 v3 μ3 H3 q3 s3 p3 e3 rr3 h0'' h3 => ?_)
      exact hg' μ3 H3 H1 st3 v2 v3 r2 r3 Q p3 (rr2.mono s3) (rr3.back s2) h3
  · rw [eb] at h2
    exact h2.elim
theorem keeps_b {K : PySem.W.Frag} {mg : Str → Option Value} {E : XK} {g : Int → Int → Bool} : Keeps K mg E (rI0 fun i j => .bl (g i j)) (gI fun i j => .bl (g i j)) := by
  intro μ H H0 st x y a b Q p ra rb f
  obtain ⟨k, e, f⟩ := f
  unfold gI at e
  split at e
  · injection e with e1 e2
    injection e1 with e3
    injection e3 with e4
    refine ⟨_, _, ra.int, rb.int, ?_⟩
    show Q (.bl (g _ _)) H
    rw [e4]
    exact f
  · cases e
theorem gI_two (g : Int → Int → Bool) (a b : R) (st : Sto) : (∃ k, gI (fun i j => .bl (g i j)) a b st = .ok (.val (.bl k)) st) ∨ gI (fun i j => .bl (g i j)) a b st = .bad := by
  unfold gI
  split
  · exact .inl ⟨_, rfl⟩
  · exact .inr rfl

/-! ### arguments, displays -/
variable {es : List Expr} {fa : DA}
def aNil : DA := fun _ st => .ok [] st
def aCons (f : DE) (fa : DA) : DA := fun ρ st => (f ρ st).bind fun r st1 => (fa ρ st1).bind fun rs st2 => .ok (r :: rs) st2
theorem xa_nil : PXA X E [] aNil := pa_imp pa_nil fun σ H Q h => by
  obtain ⟨μ, ρ, st, p, e, h⟩ := h
  exact h [] _ _ Step.refl p True.intro
theorem RvR.has {K : PySem.W.Frag} {μ : List Addr} {H H0 : Hp} {v : V} {o : O} (h : RvR K μ H H0 v (.new o)) : ∃ a u, v = .ref a ∧ H a = some u := by
  obtain ⟨a, e, _, _, q⟩ := h
  obtain ⟨u, hu⟩ := q.has
  exact ⟨a, u, e, hu⟩
theorem xa_cons (ha : PX X E a f1) (hr : PXA X E es fa) (hs : starEach (a :: es) X.env = (false, eval a X.env) :: starEach es X.env := by rfl) : PXA X E (a :: es) (aCons f1 fa) := pa_imp (pa_cons ha hr hs) fun σ H Q h => by
  obtain ⟨μ, ρ, st, p, e, h⟩ := h
  refine tg_bind relRs_ok p e h (fun r1 st1 v μ1 H1 q s1 p1 e1 rr1 h0 h1 => ?_)
  refine tg_bind relRs_ok p1 e1 h1 (fun rs st2 vs μ2 H2 q2 s2 p2 e2 rr2 h0' h2 => ?_)
  have z : FinG X.K X.mg E (relRs X.K) μ H (.ok (r1 :: rs) st2) Q := by
    have h3 := h0
    rw [show ((fa ρ st1).bind fun rs st2 => Out.ok (r1 :: rs) st2) = .ok (r1 :: rs) st2 by rw [q2]; rfl] at h3
    exact h3
  refine z (v :: vs) μ2 H2 (s1.trans s2) p2 ⟨rr1.mono s2, rr2.back s1, fun ⟨o, eo⟩ i w o' e3 e4 => ?_⟩
  subst eo
  obtain ⟨a1, u1, ea, ha1⟩ := rr1.has
  have rw' : RvR X.K μ2 H2 H1 w (.new o') := rr2.get e3 e4
  obtain ⟨a2, eb, hn, _⟩ := rw'
  rw [ea, eb]
  intro z2
  injection z2 with z3
  rw [z3, ha1] at hn
  cases hn
/-- a display: the fresh ones within get places -/
def dTup (fa : DA) : DE := fun ρ st => (fa ρ st).bind fun rs st1 => let q := allocs rs st1; if q.1.length < 1000000 then .ok (.val (.tup q.1)) q.2 else .bad
def dLst (fa : DA) : DE := fun ρ st => (fa ρ st).bind fun rs st1 => let q := allocs rs st1; if q.1.length < 1000000 then .ok (.new (.lst q.1)) q.2 else .bad
theorem allocs_at {K : PySem.W.Frag} {mg : Str → Option Value} {E : XK} {μ μ1 : List Addr} {H H1 : Hp} {st1 : Sto} {vs : List V} {rs : List R} {α β : Type} {Rel : List Addr → Hp → Hp → β → α → Prop} (ok : RelOk Rel) {out : Out α} {Q : β → Hp → Prop}
    (s1 : Step μ H μ1 H1) (p1 : Rep K μ1 H1 st1) (r : RvRs K μ1 H1 H vs rs) (h : FinG K mg E Rel μ H out Q) :
    ∃ μ2, Step μ H μ2 H1 ∧ Ext μ1 H1 μ2 H1 ∧ Rep K μ2 H1 (allocs rs st1).2 ∧ Rvs K μ2 H1 vs (allocs rs st1).1 ∧ FinG K mg E Rel μ2 H1 out Q := by
  obtain ⟨μ2, s2, p2, r2, x2⟩ := allocs_ok s1 p1 r
  exact ⟨μ2, s2, x2, p2, r2, FinG.later ok s2 h⟩
theorem x_tup {j} (h : PXA X E es fa) : PX X E (.Tuple es j pos) (dTup fa) := pe_imp (pe_tup h) fun σ H Q h => by
  obtain ⟨μ, ρ, st, p, e, h⟩ := h
  refine tg_bind relR_ok p e h (fun rs st1 vs μ1 H1 q s1 p1 e1 rr1 h0 h1 => ?_)
  obtain ⟨μ2, s2, x2, p2, r2, h2⟩ := allocs_at relR_ok s1 p1 rr1 h0
  dsimp only at h2
  split at h2
  · rename_i hl
    exact ⟨big_le (by rw [r2.len]; exact hl), fun t ht => Fin.tup h2 p2 ht r2⟩
  · exact h2.elim
theorem x_lst (h : PXA X E es fa) : PX X E (.List es pos) (dLst fa) := pe_imp (pe_lst h) fun σ H Q h => by
  obtain ⟨μ, ρ, st, p, e, h⟩ := h
  refine tg_bind relR_ok p e h (fun rs st1 vs μ1 H1 q s1 p1 e1 rr1 h0 h1 => ?_)
  obtain ⟨μ2, s2, x2, p2, r2, h2⟩ := allocs_at relR_ok s1 p1 rr1 h0
  dsimp only at h2
  split at h2
  · rename_i hl
    exact ⟨big_le (by rw [r2.len]; exact hl), fun t ht => Fin.new h2 p2 ht ⟨_, upd_same, Rvs.mono (Step.new ht) _ r2⟩⟩
  · exact h2.elim

/-! ### built-ins by their names -/
abbrev GC := List R → Sto → Out R
def CallOk (K : PySem.W.Frag) (mg : Str → Option Value) (E : XK) (r : List V → Hp → VK → Prop) (g : GC) : Prop :=
  ∀ μ H H0 st vs rs Q, Rep K μ H st → RvRs K μ H H0 vs rs → FinG K mg E (relR K) μ H (g rs st) Q → r vs H Q
def dCB (g : GC) (fa : DA) : DE := fun ρ st => (fa ρ st).bind g
theorem tg_cb {K : PySem.W.Frag} {mg : Str → Option Value} {E : XK} {r : List V → Hp → VK → Prop} {g : GC} {fa : DA} (hg : CallOk K mg E r g) (σ : L2.St) (H : Hp) (Q : VK) (h : TX K mg E (dCB g fa) σ H Q) : tCB r (TXA K mg E fa) σ H Q := by
  obtain ⟨μ, ρ, st, p, e, h⟩ := h
  refine tg_bind relR_ok p e h (fun rs st1 vs μ1 H1 q s1 p1 e1 rr1 h0 h1 => ?_)
  exact hg μ1 H1 H st1 vs rs Q p1 rr1 h1
end
end MM
namespace MM
open PySem PySem.Spec PyProof.Rows L2
theorem CallOk.or {K mg E} {r r' : List V → Hp → VK → Prop} {g g' : GC} (h : CallOk K mg E r g) (h' : CallOk K mg E r' g') (c : List R → Sto → Bool) : CallOk K mg E (fun xs H Q => r xs H Q ∨ r' xs H Q) (fun rs st => if c rs st = true then g rs st else g' rs st) := by
  intro μ H H0 st vs rs Q p ra f
  by_cases z : c rs st = true
  · simp only [z, if_true] at f
    exact .inl (h μ H H0 st vs rs Q p ra f)
  · simp only [z] at f
    exact .inr (h' μ H H0 st vs rs Q p ra f)
section
variable {K : PySem.W.Frag} {mg : Str → Option Value} {E : XK} {μ : List Addr} {H H0 : Hp} {st : Sto}
theorem RvRs.one {vs : List V} {r : R} (h : RvRs K μ H H0 vs [r]) : ∃ v, vs = [v] ∧ RvR K μ H H0 v r := by
  match vs, h with
  | [v], h => exact ⟨v, rfl, h.1⟩
theorem RvRs.two {vs : List V} {r s : R} (h : RvRs K μ H H0 vs [r, s]) : ∃ v w, vs = [v, w] ∧ RvR K μ H H0 v r ∧ RvR K μ H H0 w s := by
  match vs, h with
  | [v, w], h => exact ⟨v, w, rfl, h.1, h.2.1.1⟩
theorem RvRs.three {vs : List V} {r s t : R} (h : RvRs K μ H H0 vs [r, s, t]) : ∃ v w u, vs = [v, w, u] ∧ RvR K μ H H0 v r ∧ RvR K μ H H0 w s ∧ RvR K μ H H0 u t := by
  match vs, h with
  | [v, w, u], h => exact ⟨v, w, u, rfl, h.1, h.2.1.1, h.2.1.2.1.1⟩
theorem RvRs.zero {vs : List V} (h : RvRs K μ H H0 vs []) : vs = [] := by
  match vs, h with
  | [], _ => rfl
end
/-! len -/
def asDk (a : R) (st : Sto) : Option (List (Key × D)) := match a with
  | .val (.loc n) => match st[n]? with
    | some (.dk kvs) => some kvs
    | _ => none
  | .new (.dk kvs) => some kvs
  | _ => none
def asDt (a : R) (st : Sto) : Option (List (List Key × D)) := match a with
  | .val (.loc n) => match st[n]? with
    | some (.dt kvs) => some kvs
    | _ => none
  | .new (.dt kvs) => some kvs
  | _ => none
section
variable {K : PySem.W.Frag} {mg : Str → Option Value} {E : XK} {μ μ' μ1 μ2 : List Addr} {H H' H1 H2 H0 : Hp} {st : Sto} {v : V} {a : R}
theorem asDk_ok {kvs : List (Key × D)} (p : Rep K μ H st) (r : RvR K μ H H0 v a) (e : asDk a st = some kvs) : ∃ x ks, v = .ref x ∧ H x = some (.dK ks) ∧ Rkv K μ H ks kvs := by
  unfold asDk at e
  split at e
  · rename_i n
    split at e
    · rename_i ds' q
      cases e
      obtain ⟨x, e1, e2⟩ := r.loc
      obtain ⟨y, e3, vs, e4, r4⟩ := p.obj n _ q
      rw [e2] at e3; cases e3
      exact ⟨x, vs, e1, e4, r4⟩
    · cases e
  · cases e
    obtain ⟨x, e1, _, _, vs, e4, r4⟩ := r
    exact ⟨x, vs, e1, e4, r4⟩
  · cases e
theorem asDt_ok {kvs : List (List Key × D)} (p : Rep K μ H st) (r : RvR K μ H H0 v a) (e : asDt a st = some kvs) : ∃ x ks, v = .ref x ∧ H x = some (.dT ks) ∧ Rkv K μ H ks kvs := by
  unfold asDt at e
  split at e
  · rename_i n
    split at e
    · rename_i ds' q
      cases e
      obtain ⟨x, e1, e2⟩ := r.loc
      obtain ⟨y, e3, vs, e4, r4⟩ := p.obj n _ q
      rw [e2] at e3; cases e3
      exact ⟨x, vs, e1, e4, r4⟩
    · cases e
  · cases e
    obtain ⟨x, e1, _, _, vs, e4, r4⟩ := r
    exact ⟨x, vs, e1, e4, r4⟩
  · cases e
end
def gLen : GC := fun rs st => match rs with
  | [.val (.tup ds)] => .ok (.val (.int ds.length)) st
  | [.val (.kt ds)] => .ok (.val (.int ds.length)) st
  | [.val (.str x)] => if x.length < 1000000 then .ok (.val (.int x.length)) st else .bad
  | [a] => match asLr a st with
    | some ds => .ok (.val (.int ds.length)) st
    | none => match asDk a st with
      | some kvs => .ok (.val (.int kvs.length)) st
      | none => .bad
  | _ => .bad
def rLenAll (K : PySem.W.Frag) : List V → Hp → VK → Prop := fun xs H Q => (∃ x n, xs = [x] ∧ LenV K x H n ∧ Q (.int n) H) ∨ ∃ a kvs, xs = [V.ref a] ∧ H a = some (.dK kvs) ∧ Q (.int kvs.length) H
theorem call_lenAll {X : Cx} : CallR X (.builtin "len") (rLenAll X.K) := call_len.or call_lenD
theorem len_ok {K mg E} : CallOk K mg E (rLenAll K) gLen := by
  intro μ H H0 st vs rs Q p ra f
  unfold gLen at f
  split at f
  · obtain ⟨v, e, r⟩ := ra.one
    obtain ⟨u, us, e1, q1, r1⟩ := r.tup
    exact .inl ⟨v, _, e, by rw [e1]; exact .inr ⟨us, q1, r1.len.symm⟩, Fin.val f p Rv.int'⟩
  · obtain ⟨v, e, r⟩ := ra.one
    obtain ⟨u, us, e1, q1, r1⟩ := r.kt
    exact .inl ⟨v, _, e, by rw [e1]; exact .inr ⟨us, q1, r1.len.symm⟩, Fin.val f p Rv.int'⟩
  · split at f
    · rename_i h
      obtain ⟨v, e, r⟩ := ra.one
      exact .inl ⟨v, _, e, by rw [r.str]; exact ⟨big_le h, rfl⟩, Fin.val f p Rv.int'⟩
    · exact f.elim
  · obtain ⟨v, e, r⟩ := ra.one
    split at f
    · rename_i ds q
      obtain ⟨u, us, e1, q1, r1⟩ := asLr_ok p r q
      exact .inl ⟨v, _, e, by rw [e1]; exact .inl ⟨us, q1, r1.len.symm⟩, Fin.val f p Rv.int'⟩
    · split at f
      · rename_i kvs q
        obtain ⟨u, us, e1, q1, r1⟩ := asDk_ok p r q
        refine .inr ⟨u, us, by rw [e, e1], q1, ?_⟩
        rw [show us.length = kvs.length from Paired.length r1]
        exact Fin.val f p Rv.int'
      · exact f.elim
  · exact f.elim
/-! abs, max, min, sum, int, bool, all, any -/
def gAbs : GC := fun rs st => match rs with
  | [.val (.int i)] => .ok (.val (.int (if i < 0 then -i else i))) st
  | _ => .bad
theorem abs_ok {K mg E} : CallOk K mg E (fun xs H Q => ∃ i, xs = [.int i] ∧ Q (.int (if i < 0 then -i else i)) H) gAbs := by
  intro μ H H0 st vs rs Q p ra f
  unfold gAbs at f
  split at f
  · obtain ⟨v, e, r⟩ := ra.one
    exact ⟨_, by rw [e, r.int], Fin.val f p Rv.int'⟩
  · exact f.elim
def gMax2 : GC := fun rs st => match rs with
  | [.val (.int i), .val (.int j)] => .ok (.val (.int (if j > i then j else i))) st
  | _ => .bad
theorem max2_ok {K mg E} : CallOk K mg E (fun xs H Q => ∃ i j, xs = [.int i, .int j] ∧ Q (.int (if j > i then j else i)) H) gMax2 := by
  intro μ H H0 st vs rs Q p ra f
  unfold gMax2 at f
  split at f
  · obtain ⟨v, w, e, r, r'⟩ := ra.two
    exact ⟨_, _, by rw [e, r.int, r'.int], Fin.val f p Rv.int'⟩
  · exact f.elim
def gMin2 : GC := fun rs st => match rs with
  | [.val (.int i), .val (.int j)] => .ok (.val (.int (if j < i then j else i))) st
  | _ => .bad
theorem min2_ok {K mg E} : CallOk K mg E (fun xs H Q => ∃ i j, xs = [.int i, .int j] ∧ Q (.int (if j < i then j else i)) H) gMin2 := by
  intro μ H H0 st vs rs Q p ra f
  unfold gMin2 at f
  split at f
  · obtain ⟨v, w, e, r, r'⟩ := ra.two
    exact ⟨_, _, by rw [e, r.int, r'.int], Fin.val f p Rv.int'⟩
  · exact f.elim
/-- ints -/
def asInts : List D → Option (List Int)
  | [] => some []
  | .int i :: ds => match asInts ds with
    | some ns => some (i :: ns)
    | none => none
  | _ => none
theorem asInts_ok : ∀ {ds : List D} {ns : List Int}, asInts ds = some ns → ds = ns.map D.int
  | [], _, e => by unfold asInts at e; cases e; rfl
  | d :: ds, _, e => by
    unfold asInts at e
    split at e
    · rename_i he; cases he
    · rename_i i ds' he
      injection he with e1 e2
      subst e1; subst e2
      split at e
      · rename_i ns h
        cases e
        rw [asInts_ok h]
        rfl
      · cases e
    · cases e
@[simp] theorem asInts_map (ns : List Int) : asInts (ns.map D.int) = some ns := by
  induction ns with
  | nil => rfl
  | cons n ns ih => rw [List.map_cons]; unfold asInts; rw [ih]
def asBls : List D → Option (List Bool)
  | [] => some []
  | .bl i :: ds => match asBls ds with
    | some ns => some (i :: ns)
    | none => none
  | _ => none
theorem asBls_ok : ∀ {ds : List D} {ns : List Bool}, asBls ds = some ns → ds = ns.map D.bl
  | [], _, e => by unfold asBls at e; cases e; rfl
  | d :: ds, _, e => by
    unfold asBls at e
    split at e
    · rename_i he; cases he
    · rename_i i ds' he
      injection he with e1 e2
      subst e1; subst e2
      split at e
      · rename_i ns h
        cases e
        rw [asBls_ok h]
        rfl
      · cases e
    · cases e
@[simp] theorem asBls_map (ns : List Bool) : asBls (ns.map D.bl) = some ns := by
  induction ns with
  | nil => rfl
  | cons n ns ih => rw [List.map_cons]; unfold asBls; rw [ih]
theorem Rvs.bls {K : PySem.W.Frag} {μ : List Addr} {H : Hp} : ∀ {ns : List Bool} {vs : List V}, Rvs K μ H vs (ns.map D.bl) → vs = ns.map V.bl
  | [], _, h => by unfold Rvs at h; exact h
  | n :: ns, _, h => by
    rw [List.map_cons] at h
    unfold Rvs at h
    obtain ⟨v, r, e1, h1, h2⟩ := h
    unfold Rv at h1
    rw [e1, h1, Rvs.bls h2]
    rfl
theorem Rvs.intsR {K : PySem.W.Frag} {μ : List Addr} {H : Hp} : ∀ (ns : List Int), Rvs K μ H (ns.map V.int) (ns.map D.int)
  | [] => Rvs.nil
  | n :: ns => Rvs.cons Rv.int' (Rvs.intsR ns)
def listInts (a : R) (st : Sto) : Option (List Int) := (asLr a st).bind asInts
theorem listInts_ok {K : PySem.W.Frag} {μ : List Addr} {H H0 : Hp} {st : Sto} {v : V} {a : R} {ns : List Int} (p : Rep K μ H st) (r : RvR K μ H H0 v a) (e : listInts a st = some ns) : ∃ x, v = .ref x ∧ SqL K H x (ns.map V.int) := by
  unfold listInts at e
  cases h : asLr a st with
  | none => rw [h] at e; cases e
  | some ds =>
    rw [h] at e
    obtain ⟨x, vs, e1, q, r1⟩ := asLr_ok p r h
    rw [asInts_ok (show asInts ds = some ns from e)] at r1
    rw [r1.ints] at q
    exact ⟨x, e1, q⟩
def seqInts (a : R) (st : Sto) : Option (List Int) := match a with
  | .val (.tup ds) => asInts ds
  | a => listInts a st
theorem seqInts_ok {K : PySem.W.Frag} {μ : List Addr} {H H0 : Hp} {st : Sto} {v : V} {a : R} {ns : List Int} (p : Rep K μ H st) (r : RvR K μ H H0 v a) (e : seqInts a st = some ns) : ∃ x, v = .ref x ∧ SqA K H x (ns.map V.int) := by
  unfold seqInts at e
  split at e
  · obtain ⟨x, vs, e1, q, r1⟩ := r.tup
    rw [asInts_ok e] at r1
    rw [r1.ints] at q
    exact ⟨x, e1, .inr q⟩
  · obtain ⟨x, e1, q⟩ := listInts_ok p r e
    exact ⟨x, e1, .inl q⟩
def listBls (a : R) (st : Sto) : Option (List Bool) := (asLr a st).bind asBls
theorem listBls_ok {K : PySem.W.Frag} {μ : List Addr} {H H0 : Hp} {st : Sto} {v : V} {a : R} {ns : List Bool} (p : Rep K μ H st) (r : RvR K μ H H0 v a) (e : listBls a st = some ns) : ∃ x, v = .ref x ∧ SqL K H x (ns.map V.bl) := by
  unfold listBls at e
  cases h : asLr a st with
  | none => rw [h] at e; cases e
  | some ds =>
    rw [h] at e
    obtain ⟨x, vs, e1, q, r1⟩ := asLr_ok p r h
    rw [asBls_ok (show asBls ds = some ns from e)] at r1
    rw [r1.bls] at q
    exact ⟨x, e1, q⟩
def maxI : List Int → Int
  | [] => 0
  | [x] => x
  | x :: xs => max x (maxI xs)
def minI : List Int → Int
  | [] => 0
  | [x] => x
  | x :: xs => min x (minI xs)
theorem maxI_spec : ∀ {ns : List Int}, 0 < ns.length → maxI ns ∈ ns ∧ ∀ y ∈ ns, y ≤ maxI ns
  | [x], _ => by simp [maxI]
  | x :: y :: r, _ => by
    obtain ⟨h1, h2⟩ := maxI_spec (ns := y :: r) (by simp)
    have e : maxI (x :: y :: r) = max x (maxI (y :: r)) := rfl
    rw [e]
    refine ⟨?_, fun z hz => ?_⟩
    · rcases Int.le_total x (maxI (y :: r)) with h | h
      · rw [Int.max_eq_right h]; exact List.mem_cons_of_mem _ h1
      · rw [Int.max_eq_left h]; exact List.mem_cons_self
    · rcases List.mem_cons.mp hz with h | h
      · rw [h]; omega
      · have := h2 z h; omega
theorem minI_spec : ∀ {ns : List Int}, 0 < ns.length → minI ns ∈ ns ∧ ∀ y ∈ ns, minI ns ≤ y
  | [x], _ => by simp [minI]
  | x :: y :: r, _ => by
    obtain ⟨h1, h2⟩ := minI_spec (ns := y :: r) (by simp)
    have e : minI (x :: y :: r) = min x (minI (y :: r)) := rfl
    rw [e]
    refine ⟨?_, fun z hz => ?_⟩
    · rcases Int.le_total x (minI (y :: r)) with h | h
      · rw [Int.min_eq_left h]; exact List.mem_cons_self
      · rw [Int.min_eq_right h]; exact List.mem_cons_of_mem _ h1
    · rcases List.mem_cons.mp hz with h | h
      · rw [h]; omega
      · have := h2 z h; omega
def gMaxL : GC := fun rs st => match rs with
  | [a] => match seqInts a st with
    | some (n :: ns) => .ok (.val (.int (maxI (n :: ns)))) st
    | _ => .bad
  | _ => .bad
theorem maxL_ok {K mg E} : CallOk K mg E (rMaxA K) gMaxL := by
  intro μ H H0 st vs rs Q p ra f
  unfold gMaxL at f
  split at f
  · split at f
    · rename_i n ns q
      obtain ⟨v, e, r⟩ := ra.one
      obtain ⟨x, e1, q1⟩ := seqInts_ok p r q
      refine ⟨x, _, by rw [e, e1], q1, Nat.succ_pos _, fun m hm hle => ?_⟩
      obtain ⟨h1, h2⟩ := maxI_spec (ns := n :: ns) (Nat.succ_pos _)
      have e2 : m = maxI (n :: ns) := Int.le_antisymm (h2 m hm) (hle _ h1)
      rw [e2]
      exact Fin.val f p Rv.int'
    · exact f.elim
  · exact f.elim
def gMinL : GC := fun rs st => match rs with
  | [a] => match seqInts a st with
    | some (n :: ns) => .ok (.val (.int (minI (n :: ns)))) st
    | _ => .bad
  | _ => .bad
theorem minL_ok {K mg E} : CallOk K mg E (rMinA K) gMinL := by
  intro μ H H0 st vs rs Q p ra f
  unfold gMinL at f
  split at f
  · split at f
    · rename_i n ns q
      obtain ⟨v, e, r⟩ := ra.one
      obtain ⟨x, e1, q1⟩ := seqInts_ok p r q
      refine ⟨x, _, by rw [e, e1], q1, Nat.succ_pos _, fun m hm hle => ?_⟩
      obtain ⟨h1, h2⟩ := minI_spec (ns := n :: ns) (Nat.succ_pos _)
      have e2 : m = minI (n :: ns) := Int.le_antisymm (hle _ h1) (h2 m hm)
      rw [e2]
      exact Fin.val f p Rv.int'
    · exact f.elim
  · exact f.elim
def gSum : GC := fun rs st => match rs with
  | [a] => match seqInts a st with
    | some ns => .ok (.val (.int ns.sum)) st
    | none => .bad
  | _ => .bad
theorem sum_ok {K mg E} : CallOk K mg E (rSumA K) gSum := by
  intro μ H H0 st vs rs Q p ra f
  unfold gSum at f
  split at f
  · split at f
    · rename_i ns q
      obtain ⟨v, e, r⟩ := ra.one
      obtain ⟨x, e1, q1⟩ := seqInts_ok p r q
      exact ⟨x, _, by rw [e, e1], q1, Fin.val f p Rv.int'⟩
    · exact f.elim
  · exact f.elim
def gInt : GC := fun rs st => match rs with
  | [.val (.int i)] => .ok (.val (.int i)) st
  | [.val (.bl b)] => .ok (.val (.int (if b then 1 else 0))) st
  | _ => .bad
theorem int_ok {K mg E} : CallOk K mg E (fun xs H Q => (∃ i, xs = [.int i] ∧ Q (.int i) H) ∨ ∃ k, xs = [.bl k] ∧ Q (.int (if k then 1 else 0)) H) gInt := by
  intro μ H H0 st vs rs Q p ra f
  unfold gInt at f
  split at f
  · obtain ⟨v, e, r⟩ := ra.one
    exact .inl ⟨_, by rw [e, r.int], Fin.val f p Rv.int'⟩
  · obtain ⟨v, e, r⟩ := ra.one
    exact .inr ⟨_, by rw [e, r.bl], Fin.val f p Rv.int'⟩
  · exact f.elim
/-- all, any -/
def rAllK (K : PySem.W.Frag) : List V → Hp → VK → Prop := fun vs H Q => ∃ (a : Addr) (bs : List Bool), vs = [V.ref a] ∧ SqL K H a (bs.map V.bl) ∧ Q (.bl (bs.all id)) H
def rAnyK (K : PySem.W.Frag) : List V → Hp → VK → Prop := fun vs H Q => ∃ (a : Addr) (bs : List Bool), vs = [V.ref a] ∧ SqL K H a (bs.map V.bl) ∧ Q (.bl (bs.any id)) H
theorem cr_allK {X : Cx} (hc : X.calm = true) : CallR X (.builtin "all") (rAllK X.K) := cr_all hc
theorem cr_anyK {X : Cx} (hc : X.calm = true) : CallR X (.builtin "any") (rAnyK X.K) := cr_any hc
def gAll : GC := fun rs st => match rs with
  | [a] => match listBls a st with
    | some ns => .ok (.val (.bl (ns.all id))) st
    | none => .bad
  | _ => .bad
theorem all_ok {K mg E} : CallOk K mg E (rAllK K) gAll := by
  intro μ H H0 st vs rs Q p ra f
  unfold gAll at f
  split at f
  · split at f
    · rename_i ns q
      obtain ⟨v, e, r⟩ := ra.one
      obtain ⟨x, e1, q1⟩ := listBls_ok p r q
      exact ⟨x, _, by rw [e, e1], q1, Fin.val f p Rv.bl'⟩
    · exact f.elim
  · exact f.elim
def gAny : GC := fun rs st => match rs with
  | [a] => match listBls a st with
    | some ns => .ok (.val (.bl (ns.any id))) st
    | none => .bad
  | _ => .bad
theorem any_ok {K mg E} : CallOk K mg E (rAnyK K) gAny := by
  intro μ H H0 st vs rs Q p ra f
  unfold gAny at f
  split at f
  · split at f
    · rename_i ns q
      obtain ⟨v, e, r⟩ := ra.one
      obtain ⟨x, e1, q1⟩ := listBls_ok p r q
      exact ⟨x, _, by rw [e, e1], q1, Fin.val f p Rv.bl'⟩
    · exact f.elim
  · exact f.elim
/-! list, tuple, sorted -/
def asQ (a : R) (st : Sto) : Option (List D) := match a with
  | .val (.tup ds) => some ds
  | .val (.kt ds) => some ds
  | a => asLr a st
theorem asQ_ok {K : PySem.W.Frag} {μ : List Addr} {H H0 : Hp} {st : Sto} {v : V} {a : R} {ds : List D} (p : Rep K μ H st) (r : RvR K μ H H0 v a) (e : asQ a st = some ds) : ∃ x vs, v = .ref x ∧ (SqL K H x vs ∨ SqT K H x vs) ∧ Rvs K μ H vs ds := by
  unfold asQ at e
  split at e
  · cases e
    obtain ⟨u, us, e1, q1, r1⟩ := r.tup
    exact ⟨u, us, e1, .inr q1, r1⟩
  · cases e
    obtain ⟨u, us, e1, q1, r1⟩ := r.kt
    exact ⟨u, us, e1, .inr q1, r1⟩
  · obtain ⟨u, us, e1, q1, r1⟩ := asLr_ok p r e
    exact ⟨u, us, e1, .inl q1, r1⟩
def gList : GC := fun rs st => match rs with
  | [a] => match asQ a st with
    | some ds => .ok (.new (.lst ds)) st
    | none => .bad
  | _ => .bad
def rListAll (K : PySem.W.Frag) : List V → Hp → VK → Prop := fun xs H Q => ∃ p ys, xs = [.ref p] ∧ (SqL K H p ys ∨ SqT K H p ys) ∧ ∀ l, H l = none → Q (.ref l) (upd H l (.lst ys))
theorem list_ok {K mg E} : CallOk K mg E (rListAll K) gList := by
  intro μ H H0 st vs rs Q p ra f
  unfold gList at f
  split at f
  · split at f
    · rename_i ns q
      obtain ⟨v, e, r⟩ := ra.one
      obtain ⟨x, us, e1, q1, r1⟩ := asQ_ok p r q
      exact ⟨x, us, by rw [e, e1], q1, fun t ht => Fin.new f p ht ⟨_, upd_same, Rvs.mono (Step.new ht) _ r1⟩⟩
    · exact f.elim
  · exact f.elim
def gTuple : GC := fun rs st => match rs with
  | [.val (.tup ds)] => .ok (.val (.tup ds)) st
  | [.val (.kt ds)] => .ok (.val (.kt ds)) st
  | [a] => match asLr a st with
    | some ds => .ok (.val (.tup ds)) st
    | none => .bad
  | _ => .bad
def rTupleAll (K : PySem.W.Frag) : List V → Hp → VK → Prop := fun xs H Q => ∃ p ys, xs = [.ref p] ∧ ((SqL K H p ys ∧ ∀ l, H l = none → Q (.ref l) (upd H l (.tup ys))) ∨ (SqT K H p ys ∧ Q (.ref p) H))
theorem tuple_ok {K mg E} : CallOk K mg E (rTupleAll K) gTuple := by
  intro μ H H0 st vs rs Q p ra f
  unfold gTuple at f
  split at f
  · obtain ⟨v, e, r⟩ := ra.one
    obtain ⟨x, us, e1, q1, r1⟩ := r.tup
    exact ⟨x, us, by rw [e, e1], .inr ⟨q1, Fin.val f p (by rw [← e1]; exact r)⟩⟩
  · obtain ⟨v, e, r⟩ := ra.one
    obtain ⟨x, us, e1, q1, r1⟩ := r.kt
    exact ⟨x, us, by rw [e, e1], .inr ⟨q1, Fin.val f p (by rw [← e1]; exact r)⟩⟩
  · split at f
    · rename_i ns q
      obtain ⟨v, e, r⟩ := ra.one
      obtain ⟨x, us, e1, q1, r1⟩ := asLr_ok p r q
      exact ⟨x, us, by rw [e, e1], .inl ⟨q1, fun t ht => Fin.tup f p ht r1⟩⟩
    · exact f.elim
  · exact f.elim
def srt (ns : List Int) : List Int := ns.mergeSort fun a b => decide (a ≤ b)
theorem srt_perm (ns : List Int) : (srt ns).Perm ns := List.mergeSort_perm _ _
theorem srt_pw (ns : List Int) : (srt ns).Pairwise (· ≤ ·) := by
  have h := List.pairwise_mergeSort (le := fun a b : Int => decide (a ≤ b)) (fun a b c h1 h2 => by simp at *; omega) (fun a b => by simp; omega) ns
  exact h.imp (fun h => by simpa using h)
def gSorted : GC := fun rs st => match rs with
  | [a] => match listInts a st with
    | some ns => .ok (.new (.lst ((srt ns).map D.int))) st
    | none => .bad
  | _ => .bad
theorem sorted_ok {K mg E} : CallOk K mg E (rSortedI K) gSorted := by
  intro μ H H0 st vs rs Q p ra f
  unfold gSorted at f
  split at f
  · split at f
    · rename_i ns q
      obtain ⟨v, e, r⟩ := ra.one
      obtain ⟨x, e1, q1⟩ := listInts_ok p r q
      refine ⟨x, _, by rw [e, e1], q1, fun ns' t hp hs ht => ?_⟩
      have e2 : ns' = srt ns := PySem.W.ksm_same (hp.trans (srt_perm ns).symm) hs (srt_pw ns)
      rw [e2]
      exact Fin.new f p ht ⟨_, upd_same, Rvs.intsR _⟩
    · exact f.elim
  · exact f.elim
/-! isinstance -/
def tyOf (a : R) (st : Sto) : Option Ty := match a with
  | .val .non => some .non
  | .val (.bl _) => some .bl
  | .val (.int _) => some .int
  | .val (.str _) => some .str
  | .val (.tup _) => some .tup
  | .val (.kt _) => some .tup
  | .val (.rol _) => some .lst
  | .val (.ty _) => none
  | .val (.loc n) => match st[n]? with
    | some (.lst _) => some .lst
    | some (.dk _) => some .dic
    | some (.dt _) => some .dic
    | none => none
  | .new (.lst _) => some .lst
  | .new (.dk _) => some .dic
  | .new (.dt _) => some .dic
def isSub : Ty → Ty → Bool
  | .bl, .int => true
  | a, b => decide (a = b)
theorem isSub_ok (a b : Ty) (h : b ≠ .non) : kitB a.name b.name = some (isSub a b) := by
  cases a <;> cases b <;> first | exact absurd rfl h | decide +kernel
theorem tyX_l {K : PySem.W.Frag} {H : Hp} {a : Addr} {xs : List V} (h : SqL K H a xs) : TyX K H (.ref a) (.type "list") := by
  rcases h with (h | ⟨o, h⟩) | ⟨o, its, n, h, c, _⟩
  · exact .base (.lst h)
  · exact .base (.frz h)
  · exact .kList h c
theorem tyX_t {K : PySem.W.Frag} {H : Hp} {a : Addr} {xs : List V} (h : SqT K H a xs) : TyX K H (.ref a) (.type "tuple") := by
  rcases h with (h | ⟨o, h⟩) | ⟨o, its, n, h, c, _⟩
  · exact .base (.tup h)
  · exact .fTuple h
  · exact .kTuple h c
theorem tyOf_ok {K : PySem.W.Frag} {μ : List Addr} {H H0 : Hp} {st : Sto} {v : V} {a : R} {t : Ty} (p : Rep K μ H st) (r : RvR K μ H H0 v a) (e : tyOf a st = some t) : TyX K H v (.type t.name) := by
  have hL : ∀ ds, asLr a st = some ds → TyX K H v (.type "list") := fun ds q => by
    obtain ⟨u, us, e1, q1, r1⟩ := asLr_ok p r q
    rw [e1]; exact tyX_l q1
  have hK : ∀ ds, asDk a st = some ds → TyX K H v (.type "dict") := fun ds q => by
    obtain ⟨u, us, e1, q1, r1⟩ := asDk_ok p r q
    rw [e1]; exact .base (.dK q1)
  have hT : ∀ ds, asDt a st = some ds → TyX K H v (.type "dict") := fun ds q => by
    obtain ⟨u, us, e1, q1, r1⟩ := asDt_ok p r q
    rw [e1]; exact .base (.dT q1)
  unfold tyOf at e
  split at e
  · cases e; rw [r.non]; exact .base .non
  · cases e; rw [r.bl]; exact .base (.bl _)
  · cases e; rw [r.int]; exact .base (.int _)
  · cases e; rw [r.str]; exact .base (.str _)
  · cases e
    obtain ⟨u, us, e1, q1, r1⟩ := r.tup
    rw [e1]; exact tyX_t q1
  · cases e
    obtain ⟨u, us, e1, q1, r1⟩ := r.kt
    rw [e1]; exact tyX_t q1
  · cases e; exact hL _ rfl
  · cases e
  · split at e
    · rename_i ds q; cases e; exact hL ds (by simp only [asLr, asL, q])
    · rename_i ds q; cases e; exact hK ds (by simp only [asDk, q])
    · rename_i ds q; cases e; exact hT ds (by simp only [asDt, q])
    · cases e
  · cases e; exact hL _ rfl
  · cases e; exact hK _ rfl
  · cases e; exact hT _ rfl
def gIsi : GC := fun rs st => match rs with
  | [a, .val (.ty t)] => if t = .non then .bad else match tyOf a st with
    | some u => .ok (.val (.bl (isSub u t))) st
    | none => .bad
  | _ => .bad
theorem isi_ok {K mg E} : CallOk K mg E (rIsi K) gIsi := by
  intro μ H H0 st vs rs Q p ra f
  unfold gIsi at f
  split at f
  · rename_i a t
    split at f
    · exact f.elim
    · rename_i hn
      split at f
      · rename_i u q
        obtain ⟨v, w, e, r, r'⟩ := ra.two
        have r2 : Rv K μ H w (.ty t) := r'
        unfold Rv at r2
        refine ⟨v, w, .type u.name, .type t.name, isSub u t, e, ?_, tyOf_ok p r q, kit_ty (isSub_ok u t hn), Fin.val f p Rv.bl'⟩
        rw [r2]
        first | exact rfl | exact .ty _ | constructor
      · exact f.elim
  · exact f.elim
theorem Always.ty {K : PySem.W.Frag} (t : Ty) : Always K (.ty t.name) (.ty t) := fun _ _ => by unfold Rv; rfl
theorem x_ty {X : Cx} {E : XK} {x : Str} {pos : Pos} (t : Ty) (hg : Gl X x) (hm : X.mg x = none) (hv : bootBuiltins x = some (.type t.name)) (hn : x ≠ "__name__" := by decide) (hd : (x == ("__debug__" : Str)) = false := by decide) : PX X E (.Name x pos) (dC (.ty t)) :=
  pe_imp (pe_bltn (v := .ty t.name) hg hm hv rfl hn hd) (tg_c (Always.ty t))
end MM
namespace MM
open PySem PySem.Spec PyProof.Rows L2
/-! ### targets -/
inductive Tg where
  | nm (i : Nat) | tp (ts : List Tg)
mutual
def bindT : Tg → D → En → Option En
  | .nm i, d, ρ => some (ρ.set i (some d))
  | .tp ts, .tup ds, ρ => bindTs ts ds ρ
  | .tp ts, .kt ds, ρ => bindTs ts ds ρ
  | .tp _, _, _ => none
def bindTs : List Tg → List D → En → Option En
  | [], [], ρ => some ρ
  | t :: ts, d :: ds, ρ => match bindT t d ρ with
    | some ρ1 => bindTs ts ds ρ1
    | none => none
  | _, _, _ => none
end
mutual
def gOf (K : PySem.W.Frag) : Tg → TG
  | .nm i => gName i
  | .tp ts => gTup K ts.length (gsOf K ts)
def gsOf (K : PySem.W.Frag) : List Tg → TGs
  | [] => gNil
  | t :: ts => gCons (gOf K t) (gsOf K ts)
end
mutual
def Tg.ix : Tg → List Nat
  | .nm i => [i]
  | .tp ts => Tg.ixs ts
def Tg.ixs : List Tg → List Nat
  | [] => []
  | t :: ts => t.ix ++ Tg.ixs ts
end
def Off (l : List Nat) (σ σ' : L2.St) : Prop := σ'.length = σ.length ∧ ∀ i, i ∉ l → σ'[i]? = σ[i]?
theorem Off.refl {l : List Nat} {σ : L2.St} : Off l σ σ := ⟨rfl, fun _ _ => rfl⟩
theorem Off.trans {l m : List Nat} {σ σ1 σ2 : L2.St} (a : Off l σ σ1) (b : Off m σ1 σ2) : Off (l ++ m) σ σ2 := ⟨b.1.trans a.1, fun i h => by
  rw [List.mem_append] at h
  rw [b.2 i (fun z => h (.inr z)), a.2 i (fun z => h (.inl z))]⟩
theorem Off.sub {l m : List Nat} {σ σ1 : L2.St} (a : Off l σ σ1) (h : ∀ i ∈ l, i ∈ m) : Off m σ σ1 := ⟨a.1, fun i n => a.2 i fun z => n (h i z)⟩
section
variable {K : PySem.W.Frag} {mg : Str → Option Value} {E : XK} {μ μ' μ1 μ2 : List Addr} {H H' H1 H2 H0 : Hp} {st : Sto}
theorem RvE.set {σ : L2.St} {ρ : En} (h : RvE K μ H σ ρ) (i : Nat) {v : V} {d : D} (r : Rv K μ H v d) : RvE K μ H (σ.set i (some v)) (ρ.set i (some d)) := by
  refine ⟨by simp [h.1], fun j e q => ?_⟩
  by_cases hj : i = j
  · subst hj
    rw [List.getElem?_set] at q
    rw [if_pos rfl] at q
    split at q
    · rename_i hl
      cases q
      exact ⟨v, by rw [List.getElem?_set_self (by rw [h.1]; exact hl)], r⟩
    · cases q
  · rw [List.getElem?_set_ne hj] at q
    obtain ⟨w, e1, r1⟩ := h.2 j e q
    exact ⟨w, by rw [List.getElem?_set_ne hj]; exact e1, r1⟩
mutual
theorem bindT_ok : ∀ (t : Tg) (d : D) {ρ ρ' : En} {σ : L2.St} {v : V} {Q : L2.St → Hp → Prop}, bindT t d ρ = some ρ' → Rv K μ H v d → RvE K μ H σ ρ → (∀ σ', RvE K μ H σ' ρ' → Off t.ix σ σ' → Q σ' H) → gOf K t v σ H Q
  | .nm i, d, ρ, ρ', σ, v, Q, e, r, h, k => by
    unfold bindT at e
    cases e
    unfold gOf
    refine k _ (h.set i r) ⟨by simp, fun j hj => ?_⟩
    unfold Tg.ix at hj
    rw [List.getElem?_set_ne (fun z => hj (by simp [z]))]
  | .tp ts, .tup ds, ρ, ρ', σ, v, Q, e, r, h, k => by
    unfold bindT at e
    unfold Rv at r
    obtain ⟨a, vs, e1, q, r1⟩ := r
    unfold gOf
    have L := bindTs_len ts ds e
    exact ⟨a, vs, e1, SqT.of q, by rw [r1.len, L], bindTs_ok ts ds e r1 h (fun σ' h' o => k σ' h' (by unfold Tg.ix; exact o))⟩
  | .tp ts, .kt ds, ρ, ρ', σ, v, Q, e, r, h, k => by
    unfold bindT at e
    unfold Rv at r
    obtain ⟨a, vs, e1, q, r1⟩ := r
    unfold gOf
    have L := bindTs_len ts ds e
    exact ⟨a, vs, e1, q, by rw [r1.len, L], bindTs_ok ts ds e r1 h (fun σ' h' o => k σ' h' (by unfold Tg.ix; exact o))⟩
  | .tp _, .non, _, _, _, _, _, e, _, _, _ => by unfold bindT at e; cases e
  | .tp _, .ty _, _, _, _, _, _, e, _, _, _ => by unfold bindT at e; cases e
  | .tp _, .bl _, _, _, _, _, _, e, _, _, _ => by unfold bindT at e; cases e
  | .tp _, .int _, _, _, _, _, _, e, _, _, _ => by unfold bindT at e; cases e
  | .tp _, .str _, _, _, _, _, _, e, _, _, _ => by unfold bindT at e; cases e
  | .tp _, .rol _, _, _, _, _, _, e, _, _, _ => by unfold bindT at e; cases e
  | .tp _, .loc _, _, _, _, _, _, e, _, _, _ => by unfold bindT at e; cases e
theorem bindTs_len : ∀ (ts : List Tg) (ds : List D) {ρ ρ' : En}, bindTs ts ds ρ = some ρ' → ds.length = ts.length
  | [], [], _, _, _ => rfl
  | t :: ts, d :: ds, ρ, ρ', e => by
    unfold bindTs at e
    split at e
    · exact congrArg (· + 1) (bindTs_len ts ds e)
    · cases e
  | [], _ :: _, _, _, e => by unfold bindTs at e; cases e
  | _ :: _, [], _, _, e => by unfold bindTs at e; cases e
theorem bindTs_ok : ∀ (ts : List Tg) (ds : List D) {ρ ρ' : En} {σ : L2.St} {vs : List V} {Q : L2.St → Hp → Prop}, bindTs ts ds ρ = some ρ' → Rvs K μ H vs ds → RvE K μ H σ ρ → (∀ σ', RvE K μ H σ' ρ' → Off (Tg.ixs ts) σ σ' → Q σ' H) → gsOf K ts vs σ H Q
  | [], [], ρ, ρ', σ, vs, Q, e, r, h, k => by
    unfold bindTs at e
    cases e
    unfold Rvs at r
    unfold gsOf
    exact ⟨r, k σ h Off.refl⟩
  | t :: ts, d :: ds, ρ, ρ', σ, vs, Q, e, r, h, k => by
    unfold bindTs at e
    split at e
    · rename_i ρ1 e1
      unfold Rvs at r
      obtain ⟨v, vr, e2, r1, r2⟩ := r
      unfold gsOf
      refine ⟨v, vr, e2, bindT_ok t d e1 r1 h fun σ1 h1 o1 => ?_⟩
      exact bindTs_ok ts ds e r2 h1 fun σ2 h2 o2 => k σ2 h2 (by unfold Tg.ixs; exact o1.trans o2)
    · cases e
  | [], _ :: _, _, _, _, _, _, e, _, _, _ => by unfold bindTs at e; cases e
  | _ :: _, [], _, _, _, _, _, e, _, _, _ => by unfold bindTs at e; cases e
end
end

/-! ### statements -/
inductive SO where
  | nx (ρ : En) (st : Sto) | bk (ρ : En) (st : Sto) | ct (ρ : En) (st : Sto)
  | rt (r : R) (st : Sto)
  | exc (c : Str) (ρ : En) (st : Sto)
  | bad
abbrev DS := En → Sto → SO
section
variable (K : PySem.W.Frag) (mg : Str → Option Value) (E : XK)
def FinS (μ : List Addr) (H : Hp) (out : SO) (D : Ends) : Prop :=
  match out with
  | .nx ρ st => ∀ σ' μ' H', Step μ H μ' H' → Rep K μ' H' st → RvE K μ' H' σ' ρ → D.nx σ' H'
  | .bk ρ st => ∀ σ' μ' H', Step μ H μ' H' → Rep K μ' H' st → RvE K μ' H' σ' ρ → D.bk σ' H'
  | .ct ρ st => ∀ σ' μ' H', Step μ H μ' H' → Rep K μ' H' st → RvE K μ' H' σ' ρ → D.ct σ' H'
  | .rt r st => ∀ v μ' H', Step μ H μ' H' → Rep K μ' H' st → RvR K μ' H' H v r → D.rt v H'
  | .exc c ρ st => ∀ μ' H', Step μ H μ' H' → Rep K μ' H' st → ExcOk mg E c H'
  | .bad => False
def TXS (s : DS) : TS := fun D σ H => ∃ μ ρ st, Rep K μ H st ∧ RvE K μ H σ ρ ∧ FinS K mg E μ H (s ρ st) D
end
abbrev PXS (X : Cx) (E : XK) (s : Stmt) (f : DS) : Prop := PS X s (TXS X.K X.mg E f)
abbrev PXSs (X : Cx) (E : XK) (s : List Stmt) (f : DS) : Prop := PSs X s (TXS X.K X.mg E f)
theorem ps_imp {X : Cx} {e : Stmt} {t t' : TS} (h : PS X e t) (i : ∀ D σ H, t' D σ H → t D σ H) : PS X e t' := ⟨fun pins s σ H D I q => h.run pins s σ H D I (i _ _ _ q)⟩
theorem pss_imp {X : Cx} {e : List Stmt} {t t' : TS} (h : PSs X e t) (i : ∀ D σ H, t' D σ H → t D σ H) : PSs X e t' := ⟨fun pins s σ H D I q => h.run pins s σ H D I (i _ _ _ q)⟩
section
variable {K : PySem.W.Frag} {mg : Str → Option Value} {E : XK} {μ μ' μ1 μ2 : List Addr} {H H' H1 H2 H0 : Hp} {st : Sto} {D : Ends}
theorem FinS.later (s : Step μ H μ1 H1) {out : SO} (h : FinS K mg E μ H out D) : FinS K mg E μ1 H1 out D := by
  cases out with
  | nx ρ st => exact fun σ' μ' H' s' p e => h σ' μ' H' (s.trans s') p e
  | bk ρ st => exact fun σ' μ' H' s' p e => h σ' μ' H' (s.trans s') p e
  | ct ρ st => exact fun σ' μ' H' s' p e => h σ' μ' H' (s.trans s') p e
  | rt r st => exact fun v μ' H' s' p e => h v μ' H' (s.trans s') p (e.back s)
  | exc c ρ st => exact fun μ' H' s' p => h μ' H' (s.trans s') p
  | bad => exact h
theorem FinS.nxt {ρ : En} (h : FinS K mg E μ H (.nx ρ st) D) {σ : L2.St} (p : Rep K μ H st) (e : RvE K μ H σ ρ) : D.nx σ H := h σ μ H Step.refl p e
/-- an expression, then the rest of a statement -/
def SO.of {α : Type} (ρ : En) (o : Out α) (k : α → Sto → SO) : SO := match o with
  | .ok a st => k a st
  | .exc c st => .exc c ρ st
  | .bad => .bad
@[simp] theorem SO.of_ok {α : Type} (ρ : En) (a : α) (st : Sto) (k : α → Sto → SO) : SO.of ρ (.ok a st) k = k a st := id rfl
theorem ts_bind {α β : Type} {Rel : List Addr → Hp → Hp → β → α → Prop} {σ : L2.St} {ρ ρ0 : En} {st : Sto} {f : En → Sto → Out α} {g : α → Sto → SO} {Q1 : β → Hp → Prop}
    (p : Rep K μ H st) (e : RvE K μ H σ ρ) (h : FinS K mg E μ H (SO.of ρ0 (f ρ st) g) D)
    (k : ∀ r st1 v μ1 H1, f ρ st = .ok r st1 → Step μ H μ1 H1 → Rep K μ1 H1 st1 → RvE K μ1 H1 σ ρ → Rel μ1 H1 H v r → FinS K mg E μ H (g r st1) D → FinS K mg E μ1 H1 (g r st1) D → Q1 v H1) :
    TG' K mg E Rel f σ H Q1 := by
  refine ⟨μ, ρ, st, p, e, ?_⟩
  cases q : f ρ st with
  | ok r st1 =>
    rw [q] at h
    exact fun v μ' H' s' p' r' => k r st1 v μ' H' q s' p' (e.mono s') r' h (FinS.later s' h)
  | exc c st1 => rw [q] at h; exact h
  | bad => rw [q] at h; exact h
/-- one statement after another -/
def SO.then (o : SO) (k : En → Sto → SO) : SO := match o with
  | .nx ρ st => k ρ st
  | o => o
def sSeq (s1 s2 : DS) : DS := fun ρ st => (s1 ρ st).then s2
end
section
variable {X : Cx} {E : XK} {a b c : Expr} {f1 f2 f3 : DE} {t1 : DT} {fa : DA} {s1 s2 : DS} {st : Stmt} {rest body : List Stmt} {pos : Pos}
def sNil : DS := fun ρ st => .nx ρ st
theorem xs_nil : PXSs X E [] sNil := pss_imp pss_nil fun D σ H h => by
  obtain ⟨μ, ρ, st, p, e, h⟩ := h
  exact FinS.nxt h p e
theorem xs_one (h1 : PXS X E st s1) : PXSs X E [st] s1 := pss_one h1
theorem xs_cons (h1 : PXS X E st s1) (h2 : PXSs X E rest s2) : PXSs X E (st :: rest) (sSeq s1 s2) := pss_imp (pss_cons h1 h2) fun D σ H h => by
  obtain ⟨μ, ρ, st, p, e, h⟩ := h
  refine ⟨μ, ρ, st, p, e, ?_⟩
  unfold sSeq at h
  cases q : s1 ρ st with
  | nx ρ1 st1 => rw [q] at h; exact fun σ' μ' H' s' p' e' => ⟨μ', ρ1, st1, p', e', FinS.later s' h⟩
  | bk ρ1 st1 => rw [q] at h; exact h
  | ct ρ1 st1 => rw [q] at h; exact h
  | rt r st1 => rw [q] at h; exact h
  | exc c ρ1 st1 => rw [q] at h; exact h
  | bad => rw [q] at h; exact h
theorem xs_pass : PXS X E (.Pass pos) sNil := ps_imp ps_pass fun D σ H h => by
  obtain ⟨μ, ρ, st, p, e, h⟩ := h
  exact FinS.nxt h p e
def sBrk : DS := fun ρ st => .bk ρ st
def sCnt : DS := fun ρ st => .ct ρ st
theorem xs_break : PXS X E (.Break pos) sBrk := ps_imp ps_break fun D σ H h => by
  obtain ⟨μ, ρ, st, p, e, h⟩ := h
  exact h σ μ H Step.refl p e
theorem xs_continue : PXS X E (.Continue pos) sCnt := ps_imp ps_continue fun D σ H h => by
  obtain ⟨μ, ρ, st, p, e, h⟩ := h
  exact h σ μ H Step.refl p e
def sDrop (f : DE) : DS := fun ρ st => SO.of ρ (f ρ st) fun _ st1 => .nx ρ st1
theorem xs_expr (he : PX X E a f1) (hs : swapsWith a none pos.line X.env = pure false := by rfl) : PXS X E (.Expr a pos) (sDrop f1) := ps_imp (ps_expr he hs) fun D σ H h => by
  obtain ⟨μ, ρ, st, p, e, h⟩ := h
  exact ts_bind p e h fun r1 st1 v μ1 H1 q s1 p1 e1 rr1 h0 h1 => FinS.nxt h1 p1 e1
def sRet (f : DE) : DS := fun ρ st => SO.of ρ (f ρ st) fun r st1 => .rt r st1
theorem xs_ret (he : PX X E a f1) : PXS X E (.Return (some a) pos) (sRet f1) := ps_imp (ps_ret he) fun D σ H h => by
  obtain ⟨μ, ρ, st, p, e, h⟩ := h
  exact ts_bind p e h fun r1 st1 v μ1 H1 q s1 p1 e1 rr1 h0 h1 => h0 v μ1 H1 s1 p1 rr1
def sRetN : DS := fun ρ st => .rt (.val .non) st
theorem xs_retN : PXS X E (.Return none pos) sRetN := ps_imp ps_retN fun D σ H h => by
  obtain ⟨μ, ρ, st, p, e, h⟩ := h
  exact h .non μ H Step.refl p (show Rv X.K μ H .non .non from Rv.non')
def sIf (t : DT) (s1 s2 : DS) : DS := fun ρ st => SO.of ρ (t ρ st) fun b st1 => if b = true then s1 ρ st1 else s2 ρ st1
theorem xs_if {ba bb : List Stmt} (hc : PXT X E c t1) (ha : PXSs X E ba s1) (hb : PXSs X E bb s2) : PXS X E (.If c ba bb pos) (sIf t1 s1 s2) := ps_imp (ps_if hc ha hb) fun D σ H h => by
  obtain ⟨μ, ρ, st, p, e, h⟩ := h
  refine ts_bind (Rel := relB) p e h fun r1 st1 v μ1 H1 q s1 p1 e1 rr1 h0 h1 => ?_
  cases (show v = r1 from rr1)
  cases r1 with
  | true => exact ⟨μ1, ρ, st1, p1, e1, h1⟩
  | false => exact ⟨μ1, ρ, st1, p1, e1, h1⟩
/-! assignments -/
def toD (r : R) (st : Sto) : D × Sto := match r with
  | .val d => (d, st)
  | .new o => (.loc st.length, st ++ [o])
theorem toD_ok {K : PySem.W.Frag} {mg : Str → Option Value} {E : XK} {D : Ends} {μ μ1 : List Addr} {H H1 : Hp} {st1 : Sto} {v : V} {r : R} {out : SO} (s1 : Step μ H μ1 H1) (p1 : Rep K μ1 H1 st1) (rr : RvR K μ1 H1 H v r) (h : FinS K mg E μ H out D) :
    ∃ μ2, Step μ H μ2 H1 ∧ Ext μ1 H1 μ2 H1 ∧ Rep K μ2 H1 (toD r st1).2 ∧ Rv K μ2 H1 v (toD r st1).1 ∧ FinS K mg E μ2 H1 out D := by
  cases r with
  | val d => exact ⟨μ1, s1, Step.refl.ext, p1, rr, FinS.later s1 h⟩
  | new o =>
    obtain ⟨a, e, f, n, q⟩ := rr
    have s2 := s1.add f
    refine ⟨μ1 ++ [a], s2, Ext.add, p1.add n q, ?_, FinS.later s2 h⟩
    unfold toD Rv
    exact ⟨a, e, by rw [← p1.len, List.getElem?_append_right (Nat.le_refl _)]; simp⟩
theorem RvE.ext {K : PySem.W.Frag} {μ μ' : List Addr} {H H' : Hp} (s : Ext μ H μ' H') {σ : L2.St} {ρ : En} (h : RvE K μ H σ ρ) : RvE K μ' H' σ ρ := ⟨h.1, fun i d e => by
  obtain ⟨v, e1, r⟩ := h.2 i d e
  exact ⟨v, e1, Rv.ext s d r⟩⟩
def sSet (i : Nat) (f : DE) : DS := fun ρ st => SO.of ρ (f ρ st) fun r st1 => .nx (ρ.set i (some (toD r st1).1)) (toD r st1).2
theorem tg_set {K : PySem.W.Frag} {mg : Str → Option Value} {E : XK} {i : Nat} (D : Ends) (σ : L2.St) (H : Hp) (h : TXS K mg E (sSet i f1) D σ H) : tAsg (TX K mg E f1) (gName i) D σ H := by
  obtain ⟨μ, ρ, st, p, e, h⟩ := h
  refine ts_bind p e h fun r1 st1 v μ1 H1 q s1 p1 e1 rr1 h0 h1 => ?_
  obtain ⟨μ2, s2, x2, p2, r2, h2⟩ := toD_ok s1 p1 rr1 h0
  exact FinS.nxt h2 p2 ((e1.ext x2).set i r2)
theorem xs_set {i : Nat} {x : Str} {pos' : Pos} (hN : X.N.Nodup) (hi : X.N[i]? = some x) (hx : Loc X.env.scope x) (he : PX X E a f1) (hs : swapsWith a (some (.Name x pos')) pos.line X.env = pure false := by rfl) (hf : X.fn x = true ∨ X.env.scope.names.lookup x = some .local := by first | exact .inl rfl | exact .inr rfl | assumption) :
    PXS X E (.Assign [.Name x pos'] a pos) (sSet i f1) := ps_imp (ps_set hN hi hx he hs hf) tg_set
/-- a pattern of names -/
def sUnp (t : Tg) (f : DE) : DS := fun ρ st => SO.of ρ (f ρ st) fun r st1 => match r with
  | .val d => match bindT t d ρ with
    | some ρ1 => .nx ρ1 st1
    | none => .bad
  | .new _ => .bad
theorem xs_unp {tg : Expr} {t : Tg} (he : PX X E a f1) (hg : PG X tg (gOf X.K t)) (hs : swapsWithSole [tg] a pos.line X.env = pure false := by rfl) (hw : swappedStores [tg] a X.env = pure none := by rfl)
    (h1 : (assignEach [tg] X.env).map (·.2) = [assign tg X.env] := by rfl) : PXS X E (.Assign [tg] a pos) (sUnp t f1) := ps_imp (ps_asg he hg hs hw h1) fun D σ H h => by
  obtain ⟨μ, ρ, st, p, e, h⟩ := h
  refine ts_bind p e h fun r1 st1 v μ1 H1 q s1 p1 e1 rr1 h0 h1 => ?_
  cases r1 with
  | new o => exact h1.elim
  | val d =>
    dsimp only at h1
    split at h1
    · rename_i ρ1 eb
      exact bindT_ok t d eb rr1 e1 fun σ' e' o => FinS.nxt h1 p1 e'
    · exact h1.elim
/-- a, b = x, y -/
def sPar (i j : Nat) (fa : DA) : DS := fun ρ st => SO.of ρ (fa ρ st) fun rs st1 => let q := allocs rs st1; match q.1 with
  | [d, e] => .nx ((ρ.set i (some d)).set j (some e)) q.2
  | _ => .bad
theorem tg_par {K : PySem.W.Frag} {mg : Str → Option Value} {E : XK} {i j : Nat} (D : Ends) (σ : L2.St) (H : Hp) (h : TXS K mg E (sPar i j fa) D σ H) : tPar i j (TXA K mg E fa) D σ H := by
  obtain ⟨μ, ρ, st, p, e, h⟩ := h
  refine ts_bind p e h fun rs st1 vs μ1 H1 q s1 p1 e1 rr1 h0 h1 => ?_
  obtain ⟨μ2, s2, p2, r2, x2⟩ := allocs_ok s1 p1 rr1
  have h2 := FinS.later s2 h0
  dsimp only at h2
  split at h2
  · rename_i d d' ed
    rw [ed] at r2
    unfold Rvs at r2
    obtain ⟨v, r, e2, r3, r4⟩ := r2
    unfold Rvs at r4
    obtain ⟨v', r', e3, r5, r6⟩ := r4
    unfold Rvs at r6
    subst r6; subst e3
    exact ⟨v, v', e2, FinS.nxt h2 p2 (((e1.ext x2).set i r3).set j r5)⟩
  · exact h2.elim
theorem xs_par {i j : Nat} {x y : Str} {px py pt : Pos} {kt k2 pt2} (hc : X.calm = true) (hN : X.N.Nodup) (hi : X.N[i]? = some x) (hj : X.N[j]? = some y) (hij : i ≠ j)
    (hx : X.env.scope.names.lookup x = some .local) (hy : X.env.scope.names.lookup y = some .local) (ha : PXA X E [a, b] fa)
    (hw : swappedStores [.Tuple [.Name x px, .Name y py] kt pt] (.Tuple [a, b] k2 pt2) X.env = pure (some [x, y]))
    (hs : swapsWithSole [.Tuple [.Name x px, .Name y py] kt pt] (.Tuple [a, b] k2 pt2) pos.line X.env = pure false := by rfl) :
    PXS X E (.Assign [.Tuple [.Name x px, .Name y py] kt pt] (.Tuple [a, b] k2 pt2) pos) (sPar i j fa) := ps_imp (ps_par hc hN hi hj hij hx hy ha hw hs) tg_par
/-- x[i] = e, x a list -/
def sIx (fv fo fi : DE) : DS := fun ρ st => SO.of ρ (fv ρ st) fun r st1 => SO.of ρ (fo ρ (toD r st1).2) fun o st2 => SO.of ρ (fi ρ st2) fun i st3 => match o, i with
  | .val (.loc n), .val (.int k) => match st3[n]? with
    | some (.lst ds) => match ixN ds.length k with
      | some j => .nx ρ (st3.set n (.lst (ds.set j (toD r st1).1)))
      | none => .bad
    | _ => .bad
  | _, _ => .bad
theorem tg_ix {K : PySem.W.Frag} {mg : Str → Option Value} {E : XK} (D : Ends) (σ : L2.St) (H : Hp) (h : TXS K mg E (sIx f1 f2 f3) D σ H) : tAsg (TX K mg E f1) (L2.gSub (TX K mg E f2) (TX K mg E f3) rSetL) D σ H := by
  obtain ⟨μ, ρ, st, p, e, h⟩ := h
  refine ts_bind p e h fun r1 st1 v μ1 H1 q s1 p1 e1 rr1 h0 h1 => ?_
  obtain ⟨μ2, s2, x2, p2, r2, h2⟩ := toD_ok s1 p1 rr1 h0
  refine ts_bind p2 (e1.ext x2) h2 fun o st2 w μ3 H3 q3 s3 p3 e3 rr3 h3 h4 => ?_
  refine ts_bind p3 e3 h4 fun i st4 u μ4 H4 q4 s4 p4 e4 rr4 h5 h6 => ?_
  split at h6
  · rename_i n k
    split at h6
    · rename_i ds es
      split at h6
      · rename_i j ej
        obtain ⟨x, ex, gx⟩ := (rr3.mono s4).loc
        obtain ⟨y, ey, vs, ev, rv⟩ := p4.obj n _ es
        rw [gx] at ey; cases ey
        have rw' := Rv.mono (s3.trans s4) _ r2
        have s5 := Step.put (o := .lst (vs.set j v)) ev (List.mem_of_getElem? gx) (fun _ z => by cases z) (fun _ _ z => by cases z)
        refine ⟨x, vs, k, j, ex, rr4.int, ev, by rw [rv.len]; exact ej, ?_⟩
        refine h6 σ μ4 _ s5 (p4.put gx ev (fun _ z => by cases z) (fun _ _ z => by cases z) ⟨_, upd_same, (Rvs.mono s5 _ rv).set j (Rv.mono s5 _ rw')⟩) (e4.mono s5)
      · exact h6.elim
    · exact h6.elim
  · exact h6.elim
theorem xs_ix {o i : Expr} {pos' : Pos} (hv : PX X E a f1) (ho : PX X E o f2) (hi : PX X E i f3)
    (ha : ∀ v, assign (.Subscript o i pos') X.env v = (do
      let ov ← holding [v] (eval o X.env)
      let iv ← holding [v, ov] (eval i X.env)
      standAt pos'
      holding [v, ov, iv] (setItem ov iv v)
      release [v, ov, iv] []) := by intro _; rfl)
    (hs : swapsWithSole [.Subscript o i pos'] a pos.line X.env = pure false := by rfl) (hw : swappedStores [.Subscript o i pos'] a X.env = pure none := by rfl)
    (h1 : (assignEach [.Subscript o i pos'] X.env).map (·.2) = [assign (.Subscript o i pos') X.env] := by rfl) : PXS X E (.Assign [.Subscript o i pos'] a pos) (sIx f1 f2 f3) :=
  ps_imp (ps_asg hv (pg_sub ho hi set_list ha) hs hw h1) tg_ix
/-- name op= e, by an operation on ints -/
def sAug (i : Nat) (g : Int → Int → Int) (f : DE) : DS := fun ρ st => match ρ[i]? with
  | some (some (.int n)) => SO.of ρ (f ρ st) fun r st1 => match r with
    | .val (.int m) => .nx (ρ.set i (some (.int (g n m)))) st1
    | _ => .bad
  | _ => .bad
theorem xs_aug {i : Nat} {x : Str} {op : Operator} {g : Int → Int → Int} {pos' : Pos} (hN : X.N.Nodup) (hi : X.N[i]? = some x) (hx : Loc X.env.scope x) (he : PX X E a f1) (ho : PIp X op (ipI g)) (hf : X.fn x = true ∨ X.env.scope.names.lookup x = some .local := by first | exact .inl rfl | exact .inr rfl | assumption) :
    PXS X E (.AugAssign (.Name x pos') op a pos) (sAug i g f1) := ps_imp (ps_aug hN hi hx he ho hf) fun D σ H h => by
  obtain ⟨μ, ρ, st, p, e, h⟩ := h
  unfold sAug at h
  split at h
  · rename_i n en
    obtain ⟨v, ev, rv⟩ := e.2 i _ en
    unfold Rv at rv
    refine ⟨v, ev, ts_bind p e h fun r1 st1 w μ1 H1 q s1 p1 e1 rr1 h0 h1 => ?_⟩
    split at h1
    · exact ⟨n, _, rv, rr1.int, FinS.nxt h1 p1 (e1.set i Rv.int')⟩
    · exact h1.elim
  · exact h.elim
end
end MM
namespace MM
open PySem PySem.Spec PyProof.Rows L2
/-! ### places that are forgotten -/
mutual
def D.lim : D → Nat → Bool
  | .loc k, n => decide (k < n)
  | .tup ds, n => D.lims ds n
  | .kt ds, n => D.lims ds n
  | .rol ds, n => D.lims ds n
  | _, _ => true
def D.lims : List D → Nat → Bool
  | [], _ => true
  | d :: ds, n => d.lim n && D.lims ds n
end
def O.lim : O → Nat → Bool
  | .lst ds, n => D.lims ds n
  | .dk kvs, n => kvs.all fun p => p.2.lim n
  | .dt kvs, n => kvs.all fun p => p.2.lim n
def R.lim : R → Nat → Bool
  | .val d, n => d.lim n
  | .new o, n => o.lim n
section
variable {K : PySem.W.Frag} {mg : Str → Option Value} {E : XK} {μ μ' μ1 μ2 : List Addr} {H H' H1 H2 H0 : Hp} {st st0 : Sto}
mutual
theorem Rv.below : ∀ (d : D) {v : V}, Rv K μ H v d → d.lim μ.length = true
  | .loc k, v, h => by
    unfold Rv at h
    obtain ⟨a, _, e⟩ := h
    unfold D.lim
    exact decide_eq_true (List.getElem?_eq_some_iff.mp e).1
  | .tup ds, v, h => by
    unfold Rv at h
    obtain ⟨a, vs, _, _, r⟩ := h
    unfold D.lim
    exact Rvs.below ds r
  | .rol ds, v, h => by
    unfold Rv at h
    obtain ⟨a, vs, _, _, r⟩ := h
    unfold D.lim
    exact Rvs.below ds r
  | .kt ds, v, h => by
    unfold Rv at h
    obtain ⟨a, vs, _, _, r⟩ := h
    unfold D.lim
    exact Rvs.below ds r
  | .non, _, _ => by unfold D.lim; rfl
  | .ty _, _, _ => by unfold D.lim; rfl
  | .bl _, _, _ => by unfold D.lim; rfl
  | .int _, _, _ => by unfold D.lim; rfl
  | .str _, _, _ => by unfold D.lim; rfl
theorem Rvs.below : ∀ (ds : List D) {vs : List V}, Rvs K μ H vs ds → D.lims ds μ.length = true
  | [], _, _ => by unfold D.lims; rfl
  | d :: ds, _, h => by
    unfold Rvs at h
    obtain ⟨v, r, _, h1, h2⟩ := h
    unfold D.lims
    rw [Rv.below d h1, Rvs.below ds h2]
    rfl
end
mutual
theorem Rv.cut {n : Nat} : ∀ (d : D) {v : V}, Rv K μ H v d → d.lim n = true → Rv K (μ.take n) H v d
  | .loc k, v, h, b => by
    unfold Rv at h
    obtain ⟨a, e1, e⟩ := h
    unfold D.lim at b
    have hk : k < n := of_decide_eq_true b
    unfold Rv
    exact ⟨a, e1, by rw [List.getElem?_take, if_pos hk]; exact e⟩
  | .tup ds, v, h, b => by
    unfold Rv at h
    obtain ⟨a, vs, e, q, r⟩ := h
    unfold D.lim at b
    unfold Rv
    exact ⟨a, vs, e, q, Rvs.cut ds r b⟩
  | .rol ds, v, h, b => by
    unfold Rv at h
    obtain ⟨a, vs, e, q, r⟩ := h
    unfold D.lim at b
    unfold Rv
    exact ⟨a, vs, e, q, Rvs.cut ds r b⟩
  | .kt ds, v, h, b => by
    unfold Rv at h
    obtain ⟨a, vs, e, q, r⟩ := h
    unfold D.lim at b
    unfold Rv
    exact ⟨a, vs, e, q, Rvs.cut ds r b⟩
  | .non, _, h, _ => by unfold Rv at *; exact h
  | .ty _, _, h, _ => by unfold Rv at *; exact h
  | .bl _, _, h, _ => by unfold Rv at *; exact h
  | .int _, _, h, _ => by unfold Rv at *; exact h
  | .str _, _, h, _ => by unfold Rv at *; exact h
theorem Rvs.cut {n : Nat} : ∀ (ds : List D) {vs : List V}, Rvs K μ H vs ds → D.lims ds n = true → Rvs K (μ.take n) H vs ds
  | [], _, h, _ => by unfold Rvs at *; exact h
  | d :: ds, _, h, b => by
    unfold Rvs at h
    obtain ⟨v, r, e, h1, h2⟩ := h
    unfold D.lims at b
    rw [Bool.and_eq_true] at b
    unfold Rvs
    exact ⟨v, r, e, Rv.cut d h1 b.1, Rvs.cut ds h2 b.2⟩
end
theorem Rkv.below {κ : Type} : ∀ {a : List (κ × V)} {b : List (κ × D)}, Rkv K μ H a b → (b.all fun p => p.2.lim μ.length) = true
  | _, _, .nil => rfl
  | _, _, .cons r t => by rw [List.all_cons, Rv.below _ r.2]; exact Rkv.below t
theorem Rkv.cut {κ : Type} {n : Nat} : ∀ {a : List (κ × V)} {b : List (κ × D)}, Rkv K μ H a b → (b.all fun p => p.2.lim n) = true → Rkv K (μ.take n) H a b
  | _, _, .nil, _ => .nil
  | _, _, .cons r t, h => by
    rw [List.all_cons, Bool.and_eq_true] at h
    exact .cons ⟨r.1, Rv.cut _ r.2 h.1⟩ (Rkv.cut t h.2)
theorem RepO.below {a : Addr} {o : O} (h : RepO K μ H a o) : o.lim μ.length = true := by
  cases o with
  | lst ds => obtain ⟨vs, _, r⟩ := h; exact Rvs.below ds r
  | dk ks => obtain ⟨vs, _, r⟩ := h; exact Rkv.below r
  | dt ks => obtain ⟨vs, _, r⟩ := h; exact Rkv.below r
theorem RepO.cut {n : Nat} {a : Addr} {o : O} (h : RepO K μ H a o) (b : o.lim n = true) : RepO K (μ.take n) H a o := by
  cases o with
  | lst ds => obtain ⟨vs, e, r⟩ := h; exact ⟨vs, e, Rvs.cut ds r b⟩
  | dk ks => obtain ⟨vs, e, r⟩ := h; exact ⟨vs, e, Rkv.cut r b⟩
  | dt ks => obtain ⟨vs, e, r⟩ := h; exact ⟨vs, e, Rkv.cut r b⟩
/-- the first n places of a store know no others: st0 is one of n places -/
def CutOk (st0 st : Sto) : Prop := st0.length ≤ st.length ∧ ∀ (i : Nat) (o : O), i < st0.length → st[i]? = some o → st0[i]? = some o ∨ o.lim st0.length = true
theorem Rep.cut (p0 : Rep K μ0 H0 st0) (p : Rep K μ H st) (h : CutOk st0 st) : Rep K (μ.take st0.length) H (st.take st0.length) := by
  refine ⟨by simp [p.len], fun i o e => ?_, fun i j a e1 e2 => ?_⟩
  · rw [List.getElem?_take] at e
    split at e
    · rename_i hi
      obtain ⟨a, e1, q⟩ := p.obj i o e
      refine ⟨a, by rw [List.getElem?_take, if_pos hi]; exact e1, q.cut ?_⟩
      rcases h.2 i o hi e with z | z
      · obtain ⟨b, _, q0⟩ := p0.obj i o z
        rw [← p0.len]
        exact q0.below
      · exact z
    · cases e
  · rw [List.getElem?_take] at e1 e2
    split at e1
    · split at e2
      · exact p.inj i j a e1 e2
      · cases e2
    · cases e1
theorem Step.cut (s : Step μ H μ' H') {n : Nat} (h : μ.length ≤ n) : Step μ H (μ'.take n) H' := by
  obtain ⟨ν, e, f⟩ := s.pre
  refine ⟨⟨ν.take (n - μ.length), ?_, fun a ha => f a (List.mem_of_mem_take ha)⟩, s.tup, s.frz, s.oth, s.free⟩
  rw [e, List.take_append, List.take_of_length_le h]
theorem RvR.cut {v : V} {r : R} {n : Nat} (h : RvR K μ H H0 v r) (b : r.lim n = true) : RvR K (μ.take n) H H0 v r := by
  cases r with
  | val d => exact Rv.cut d h b
  | new o =>
    obtain ⟨a, e, f, g, q⟩ := h
    exact ⟨a, e, f, fun z => g (List.mem_of_mem_take z), q.cut b⟩
end
open Classical in
/-- what a def hands back: the places it made are forgotten where nothing knows them -/
noncomputable def leave (st0 : Sto) (r : R) (st : Sto) : Out R :=
  if st.length = st0.length then .ok r st
  else if CutOk st0 st then match r with
    | .val (.loc k) => match st[k]? with
      | some o => if k < st0.length then .ok r (st.take st0.length) else if o.lim st0.length = true then .ok (.new o) (st.take st0.length) else .ok r st
      | none => .ok r st
    | r => if r.lim st0.length = true then .ok r (st.take st0.length) else .ok r st
  else .ok r st
section
variable {K : PySem.W.Frag} {mg : Str → Option Value} {E : XK} {μ μ' μ1 μ2 μ0 : List Addr} {H H' H1 H2 H0 : Hp} {st st0 : Sto}
theorem leave_ok {v : V} {r : R} {Q : VK} (p0 : Rep K μ H st0) (s : Step μ H μ' H') (p : Rep K μ' H' st) (rr : RvR K μ' H' H v r) (h : FinG K mg E (relR K) μ H (leave st0 r st) Q) : Q v H' := by
  have hL : μ.length ≤ st0.length := by rw [p0.len]; exact Nat.le_refl _
  unfold leave at h
  split at h
  · exact h v μ' H' s p rr
  · split at h
    · rename_i hc
      have p' := Rep.cut p0 p hc
      have s' := s.cut (n := st0.length) hL
      split at h
      · rename_i k
        split at h
        · rename_i o ek
          split at h
          · rename_i hk
            exact h v _ H' s' p' (RvR.cut rr (by show D.lim (.loc k) st0.length = true; unfold D.lim; exact decide_eq_true hk))
          · rename_i hk
            split at h
            · rename_i hb
              obtain ⟨a, ea, ga⟩ := rr.loc
              obtain ⟨b, eb, q⟩ := p.obj k o ek
              rw [ga] at eb; cases eb
              refine h v _ H' s' p' ⟨a, ea, ?_, fun z => ?_, q.cut hb⟩
              · obtain ⟨ν, e, f⟩ := s.pre
                rw [e, List.getElem?_append_right (by rw [p0.len]; omega)] at ga
                exact f a (List.mem_of_getElem? ga)
              · obtain ⟨j, hj, ej⟩ := List.mem_iff_getElem.mp z
                have ej' : (List.take st0.length μ')[j]? = some a := by rw [List.getElem?_eq_getElem hj, ej]
                rw [List.getElem?_take] at ej'
                split at ej'
                · have := p.inj j k a ej' ga
                  omega
                · cases ej'
            · exact h v μ' H' s p rr
        · exact h v μ' H' s p rr
      · split at h
        · rename_i hb
          exact h v _ H' s' p' (RvR.cut rr hb)
        · exact h v μ' H' s p rr
    · exact h v μ' H' s p rr
end
/-! ### own defs -/
abbrev FD := List D → Sto → Out R
def spF (K : PySem.W.Frag) (mg : Str → Option Value) (n : Nat) (F : FD) : Sp := fun vs H Q E => vs.length = n ∧ ∃ μ st ds, Rep K μ H st ∧ Rvs K μ H vs ds ∧ FinG K mg E (relR K) μ H (F ds st) Q
noncomputable def dFn (n : Nat) (body : DS) : FD := fun ds st => match body (ds.map some ++ List.replicate (n - ds.length) none) st with
  | .rt r st1 => leave st r st1
  | .nx _ st1 => leave st (.val .non) st1
  | .exc c _ st1 => .exc c st1
  | _ => .bad
theorem start_ok {K : PySem.W.Frag} {μ : List Addr} {H : Hp} {vs : List V} {ds : List D} {N : List Str} (r : Rvs K μ H vs ds) : RvE K μ H (L2.start N vs) (ds.map some ++ List.replicate (N.length - ds.length) none) := by
  unfold L2.start
  refine ⟨by simp [r.len], fun i d e => ?_⟩
  rcases Nat.lt_or_ge i ds.length with h | h
  · rw [List.getElem?_append_left (by simpa using h), List.getElem?_map] at e
    cases q : ds[i]? with
    | none => rw [q] at e; cases e
    | some d' =>
      rw [q] at e
      injection e with e1
      injection e1 with e2
      subst e2
      obtain ⟨v, e3, r3⟩ := r.get q
      exact ⟨v, by rw [List.getElem?_append_left (by simp [r.len]; exact h), List.getElem?_map, e3]; rfl, r3⟩
  · rw [List.getElem?_append_right (by simpa using h), List.getElem?_replicate] at e
    split at e <;> cases e
section
variable {P : Program} {w : World} {K : PySem.W.Frag} {mg : Str → Option Value} {base : Heap}
theorem fd_ends {μ : List Addr} {H : Hp} {st : Sto} {n : Nat} {body : DS} {ds : List D} {Q : VK} {E : XK} (p : Rep K μ H st) (h : FinG K mg E (relR K) μ H (dFn n body ds st) Q) :
    FinS K mg E μ H (body (ds.map some ++ List.replicate (n - ds.length) none) st) { nx := fun _ H' => Q .non H', rt := Q } := by
  unfold dFn at h
  split at h
  · rename_i r st1 e
    rw [e]
    exact fun v μ' H' s' p' r' => leave_ok p s' p' r' h
  · rename_i ρ st1 e
    rw [e]
    exact fun σ' μ' H' s' p' e' => leave_ok p s' p' (show RvR K μ' H' H .non (.val .non) from (show Rv K μ' H' .non .non from Rv.non')) h
  · rename_i c ρ st1 e
    rw [e]
    exact h
  · exact h.elim
/-- THE RULE for a def that raises nothing -/
theorem fn_ok {x qual : Str} {sm : Stmt} {f : Addr} {fd : FuncData} {N ps : List Str} {k : Nat} {body : DS} (F : L2.Fun K x qual sm f fd) (S : FnScope N ps (defScope sm))
    (hb : ∀ (cdv : Value) (A : Around) (outer : List PySem.Env) (s : Shared) (H : Hp) (E : XK), Room k (A.deeper (envOfC qual (defScope sm) s.heap.objs.size f cdv)) → PXSs (cxOf CX0 P w K mg base N qual (defScope sm) f cdv A outer s H E).nox E0 (defBody sm) body) :
    FnOk P w K mg base CX0 (k + 1) f fd ps (fun vs H Q E => spF K mg ps.length (dFn N.length body) vs H Q E0) := by
  refine F.ok S (fun vs H Q E h => h.1) (fun cdv A outer s H vs Q E hr h => ?_)
  obtain ⟨_, μ, st, ds, p, r, h⟩ := h
  refine ⟨_, hb cdv A outer s H E hr, μ, _, st, p, start_ok r, ?_⟩
  exact fd_ends p h
end
/-! ### calls of own defs -/
noncomputable def callF (F : FD) (rs : List R) (st : Sto) : Out R :=
  let q := allocs rs st
  if q.2.length = st.length then F q.1 q.2
  else (F q.1 q.2).bind fun r st2 => leave st r st2
noncomputable def dCall (F : FD) (fa : DA) : DE := fun ρ st => (fa ρ st).bind fun rs st1 => callF F rs st1
/-- nothing is raised -/
def NoExc (F : FD) : Prop := ∀ ds st c st', F ds st ≠ .exc c st'
section
variable {K : PySem.W.Frag} {mg : Str → Option Value} {E : XK}
theorem tg_call {n : Nat} {F : FD} {fa : DA} (ha : ∀ ρ st rs st1, fa ρ st = .ok rs st1 → rs.length = n) (σ : L2.St) (H : Hp) (Q : VK) (h : TX K mg E (dCall F fa) σ H Q) : tCall (fun vs H Q _ => spF K mg n F vs H Q E) [] E (TXA K mg E fa) σ H Q := by
  obtain ⟨μ, ρ, st, p, e, h⟩ := h
  refine tg_bind relR_ok p e h (fun rs st1 vs μ1 H1 q s1 p1 e1 rr1 h0 h1 => ?_)
  obtain ⟨μ2, s2, x2, p2, r2, h2⟩ := allocs_at relR_ok s1 p1 rr1 h0
  rw [List.append_nil]
  refine ⟨by rw [rr1.len]; exact ha ρ st rs st1 q, μ2, _, _, p2, r2, ?_⟩
  unfold callF at h0 h2
  dsimp only at h0 h2
  split at h2
  · exact h2
  · rename_i hne
    rw [if_neg hne] at h0
    cases z : F (allocs rs st1).1 (allocs rs st1).2 with
    | bad => rw [z] at h0; exact h0
    | exc c st3 => rw [z] at h2; exact h2
    | ok r st3 =>
      rw [z] at h0
      intro v μ3 H3 s3 p3 r3
      have s4 : Step μ1 H1 μ1 H1 := Step.refl
      -- from the state behind the arguments on
      exact leave_ok' p1 s1 s2 s3 p3 r3 h0
where
  leave_ok' {μ μ1 μ2 μ3 : List Addr} {H H1 H3 : Hp} {st1 st3 : Sto} {v : V} {r : R} {Q : VK} (p1 : Rep K μ1 H1 st1) (s1 : Step μ H μ1 H1) (s2 : Step μ H μ2 H1) (s3 : Step μ2 H1 μ3 H3) (p3 : Rep K μ3 H3 st3) (r3 : RvR K μ3 H3 H1 v r) (h : FinG K mg E (relR K) μ H (leave st1 r st3) Q) : Q v H3 := by
    have s := s2.trans s3
    have rr := r3.back s2
    obtain ⟨ν1, en1, _⟩ := s1.pre
    have hL : μ.length ≤ st1.length := by rw [← p1.len, en1]; simp
    unfold leave at h
    split at h
    · exact h v μ3 H3 s p3 rr
    · split at h
      · rename_i hc
        have p' := Rep.cut p1 p3 hc
        have s' := s.cut (n := st1.length) hL
        split at h
        · rename_i k
          split at h
          · rename_i o ek
            split at h
            · rename_i hk
              exact h v _ H3 s' p' (RvR.cut rr (by show D.lim (.loc k) st1.length = true; unfold D.lim; exact decide_eq_true hk))
            · rename_i hk
              split at h
              · rename_i hb
                obtain ⟨a, ea, ga⟩ := rr.loc
                obtain ⟨b, eb, q⟩ := p3.obj k o ek
                rw [ga] at eb; cases eb
                refine h v _ H3 s' p' ⟨a, ea, ?_, fun z => ?_, q.cut hb⟩
                · obtain ⟨ν, en, f⟩ := s.pre
                  rw [en, List.getElem?_append_right (by omega)] at ga
                  exact f a (List.mem_of_getElem? ga)
                · obtain ⟨j, hj, ej⟩ := List.mem_iff_getElem.mp z
                  have ej' : (List.take st1.length μ3)[j]? = some a := by rw [List.getElem?_eq_getElem hj, ej]
                  rw [List.getElem?_take] at ej'
                  split at ej'
                  · have := p3.inj j k a ej' ga
                    omega
                  · cases ej'
              · exact h v μ3 H3 s p3 rr
          · exact h v μ3 H3 s p3 rr
        · split at h
          · rename_i hb
            exact h v _ H3 s' p' (RvR.cut rr hb)
          · exact h v μ3 H3 s p3 rr
      · exact h v μ3 H3 s p3 rr
end
end MM
namespace MM
open PySem PySem.Spec PyProof.Rows L2
/-! ### turns: what is forgotten behind each -/
def wipeE (ρ : En) : List Nat → En
  | [] => ρ
  | v :: vs => (wipeE ρ vs).set v none
theorem wipeE_len (ρ : En) : ∀ vs, (wipeE ρ vs).length = ρ.length
  | [] => rfl
  | v :: vs => by unfold wipeE; rw [List.length_set, wipeE_len ρ vs]
theorem wipeE_some {ρ : En} {i : Nat} {d : D} : ∀ {vs : List Nat}, (wipeE ρ vs)[i]? = some (some d) → ρ[i]? = some (some d) ∧ i ∉ vs
  | [], h => ⟨h, by simp⟩
  | v :: vs, h => by
    unfold wipeE at h
    by_cases hv : v = i
    · subst hv
      rw [List.getElem?_set, if_pos rfl] at h
      split at h <;> cases h
    · rw [List.getElem?_set_ne hv] at h
      obtain ⟨h1, h2⟩ := wipeE_some h
      exact ⟨h1, fun z => (List.mem_cons.mp z).elim (fun e => hv e.symm) h2⟩
theorem wipe_get {σ : L2.St} {i : Nat} : ∀ {vs : List Nat}, i ∉ vs → (wipe σ vs)[i]? = σ[i]? := fun h => wipe_out h
def EnvLim (ρ0 ρ : En) (n : Nat) : Prop := ∀ (i : Nat) d, ρ[i]? = some (some d) → ρ0[i]? = some (some d) ∨ d.lim n = true
open Classical in
noncomputable def tidy (ks : List Nat) (ρ0 : En) (st0 : Sto) (ρ : En) (st : Sto) : En × Sto :=
  if st.length = st0.length then (wipeE ρ ks, st)
  else if CutOk st0 st ∧ EnvLim ρ0 (wipeE ρ ks) st0.length then (wipeE ρ ks, st.take st0.length)
  else (wipeE ρ ks, st)
section
variable {K : PySem.W.Frag} {mg : Str → Option Value} {E : XK} {μ μ' μ1 μ2 μ0 : List Addr} {H H' H1 H2 H0 : Hp} {st st0 : Sto}
theorem RvE.wipe {σ : L2.St} {ρ : En} (h : RvE K μ H σ ρ) (ks : List Nat) : RvE K μ H σ (wipeE ρ ks) := ⟨by rw [wipeE_len]; exact h.1, fun i d e => h.2 i d (wipeE_some e).1⟩
theorem RvE.wipe2 {σ : L2.St} {ρ : En} (h : RvE K μ H σ ρ) (ks : List Nat) : RvE K μ H (L2.wipe σ ks) (wipeE ρ ks) := ⟨by rw [wipeE_len, wipe_length]; exact h.1, fun i d e => by
  obtain ⟨h1, h2⟩ := wipeE_some e
  obtain ⟨v, e1, r⟩ := h.2 i d h1
  exact ⟨v, by rw [wipe_get h2]; exact e1, r⟩⟩
theorem tidy_ok {ks : List Nat} {ρ0 ρ : En} {σ0 σ : L2.St} (s00 : Step μ0 H0 μ1 H1) (p0 : Rep K μ1 H1 st0) (e0 : RvE K μ1 H1 σ0 ρ0) (s : Step μ1 H1 μ H) (p : Rep K μ H st) (e : RvE K μ H σ ρ) :
    ∃ μ', Step μ0 H0 μ' H ∧ Rep K μ' H (tidy ks ρ0 st0 ρ st).2 ∧ RvE K μ' H σ (tidy ks ρ0 st0 ρ st).1 := by
  unfold tidy
  split
  · exact ⟨μ, s00.trans s, p, e.wipe ks⟩
  · split
    · rename_i h
      obtain ⟨hc, hl⟩ := h
      obtain ⟨ν, en, _⟩ := s00.pre
      refine ⟨μ.take st0.length, (s00.trans s).cut (by rw [← p0.len, en]; simp), Rep.cut p0 p hc, by rw [wipeE_len]; exact e.1, fun i d q => ?_⟩
      obtain ⟨v, e1, r⟩ := (e.wipe ks).2 i d q
      refine ⟨v, e1, Rv.cut d r ?_⟩
      rcases hl i d q with z | z
      · obtain ⟨w, _, r0⟩ := e0.2 i d z
        rw [← p0.len]
        exact Rv.below d r0
      · exact z
    · exact ⟨μ, s00.trans s, p, e.wipe ks⟩
end

/-! ### what is walked -/
abbrev Chk := Sto → Prop
structure WalkX (K : PySem.W.Frag) (μ0 : List Addr) (H0 : Hp) (J : It) (items : List D) (chk : Chk) : Prop where
  go : ∀ μ H st (i : Nat), Step μ0 H0 μ H → Rep K μ H st → chk st → i < items.length → J.go i H
  stop : ∀ μ H st, Step μ0 H0 μ H → Rep K μ H st → chk st → J.stop items.length H
  yld : ∀ μ H st (i : Nat) x H', Step μ0 H0 μ H → Rep K μ H st → chk st → i < items.length → J.yld i H x H' → ∃ d, items[i]? = some d ∧ Step μ H μ H' ∧ Rep K μ H' st ∧ Rv K μ H' x d
theorem WalkX.later {K μ0 H0 μ1 H1 J items chk} (w : WalkX K μ0 H0 J items chk) (s : Step μ0 H0 μ1 H1) : WalkX K μ1 H1 J items chk :=
  ⟨fun μ H st i s' => w.go μ H st i (s.trans s'), fun μ H st s' => w.stop μ H st (s.trans s'), fun μ H st i x H' s' => w.yld μ H st i x H' (s.trans s')⟩
abbrev Src := List D × Chk
abbrev DI := En → Sto → Out Src
abbrev relW (K : PySem.W.Frag) : List Addr → Hp → Hp → It → Src → Prop := fun μ H _ J p => WalkX K μ H J p.1 p.2
theorem relW_ok {K} : RelOk (relW K) := ⟨fun s h => h.later s, fun _ h => h⟩
abbrev TXI (K : PySem.W.Frag) (mg : Str → Option Value) (E : XK) (f : DI) : TI := TG' K mg E (relW K) f
abbrev PXI (X : Cx) (E : XK) (tg e : Expr) (f : DI) : Prop := PI X tg e (TXI X.K X.mg E f)
theorem pi_imp {X : Cx} {tg e : Expr} {t t' : TI} (h : PI X tg e t) (i : ∀ σ H Q, t' σ H Q → t σ H Q) : PI X tg e t' := ⟨fun pins s σ H Q I q => h.run pins s σ H Q I (i _ _ _ q)⟩
theorem pi_or {X : Cx} {tg e : Expr} {t t' : TI} (h : PI X tg e t) (h' : PI X tg e t') : PI X tg e (fun σ H R => t σ H R ∨ t' σ H R) := ⟨fun pins s σ H Q I q => q.elim (fun q => h.run pins s σ H Q I q) (fun q => h'.run pins s σ H Q I q)⟩
/-- a list that is read: which one it is -/
def chkOf (a : R) (ds : List D) : Chk := fun st => match a with
  | .val (.loc n) => st[n]? = some (.lst ds)
  | _ => True
section
variable {K : PySem.W.Frag} {mg : Str → Option Value} {E : XK} {μ μ' μ1 μ2 μ0 : List Addr} {H H' H1 H2 H0 : Hp} {st st0 : Sto} {v : V} {a : R} {ds : List D}
/-- behind: still a list of these -/
theorem list_later (p : Rep K μ H st) (r : RvR K μ H H0 v a) (e : asLr a st = some ds) : ∃ x, v = .ref x ∧ ∀ μ' H' st', Step μ H μ' H' → Rep K μ' H' st' → chkOf a ds st' → ∃ vs, SqL K H' x vs ∧ Rvs K μ' H' vs ds := by
  obtain ⟨x, vs, e1, q1, r1⟩ := asLr_ok p r e
  refine ⟨x, e1, fun μ' H' st' s p' c => ?_⟩
  have r' := r.mono s
  cases a with
  | new o =>
    cases o with
    | lst ds' => exact let ⟨y, ws, e2, q2, r2⟩ := asLr_ok (ds := ds) p' r' e; by rw [e1] at e2; cases e2; exact ⟨ws, q2, r2⟩
    | dk _ => cases e
    | dt _ => cases e
  | val d =>
    cases d with
    | loc n =>
      have c' : st'[n]? = some (.lst ds) := c
      obtain ⟨y, ws, e2, q2, r2⟩ := asLr_ok (ds := ds) p' r' (by simp only [asLr, asL, c'])
      rw [e1] at e2; cases e2
      exact ⟨ws, q2, r2⟩
    | rol ds' => exact let ⟨y, ws, e2, q2, r2⟩ := asLr_ok (ds := ds) p' r' e; by rw [e1] at e2; cases e2; exact ⟨ws, q2, r2⟩
    | non => cases e
    | ty _ => cases e
    | bl _ => cases e
    | int _ => cases e
    | str _ => cases e
    | tup _ => cases e
    | kt _ => cases e
theorem walkL (p : Rep K μ H st) (r : RvR K μ H H0 v a) (e : asLr a st = some ds) : ∃ x, v = .ref x ∧ WalkX K μ H (Itl K x) ds (chkOf a ds) := by
  obtain ⟨x, e1, later⟩ := list_later p r e
  refine ⟨x, e1, fun μ' H' st' i s p' c hi => ?_, fun μ' H' st' s p' c => ?_, fun μ' H' st' i y H2 s p' c hi q => ?_⟩
  · obtain ⟨vs, q, rr⟩ := later μ' H' st' s p' c
    have hl : i < vs.length := by rw [rr.len]; exact hi
    exact ⟨vs, vs[i], q, List.getElem?_eq_getElem hl⟩
  · obtain ⟨vs, q, rr⟩ := later μ' H' st' s p' c
    exact ⟨vs, q, by rw [rr.len]; exact Nat.le_refl _⟩
  · obtain ⟨vs, q1, rr⟩ := later μ' H' st' s p' c
    obtain ⟨rfl, q2⟩ := q
    have ey := q2 vs q1
    obtain ⟨d, ed, rd⟩ := rr.get' ey
    exact ⟨d, ed, Step.refl, p', rd⟩
theorem walkT {ds : List D} (r : ∃ x vs, v = .ref x ∧ SqT K H x vs ∧ Rvs K μ H vs ds) : ∃ x vs, v = .ref x ∧ SqT K H x vs ∧ WalkX K μ H (Itt K x) ds (fun _ => True) := by
  obtain ⟨x, vs, e1, q1, r1⟩ := r
  refine ⟨x, vs, e1, q1, fun μ' H' st' i s p' c hi => ?_, fun μ' H' st' s p' c => ?_, fun μ' H' st' i y H2 s p' c hi q => ?_⟩
  · have hl : i < vs.length := by rw [r1.len]; exact hi
    exact ⟨vs, vs[i], s.sqt q1, List.getElem?_eq_getElem hl⟩
  · exact ⟨vs, s.sqt q1, by rw [r1.len]; exact Nat.le_refl _⟩
  · obtain ⟨rfl, q2⟩ := q
    have ey := q2 vs (s.sqt q1)
    obtain ⟨d, ed, rd⟩ := (Rvs.mono s ds r1).get' ey
    exact ⟨d, ed, Step.refl, p', rd⟩
end
/-- a list, a tuple -/
def iSeq (f : DE) : DI := fun ρ st => (f ρ st).bind fun a st1 => match a with
  | .val (.tup ds) => .ok (ds, fun _ => True) st1
  | .val (.kt ds) => .ok (ds, fun _ => True) st1
  | a => match asLr a st1 with
    | some ds => .ok (ds, chkOf a ds) st1
    | none => .bad
/-- 0, 1, .. -/
def ups (lo : Int) (n : Nat) : List D := (List.range n).map fun i => D.int (lo + (i : Nat))
def iRange1 (fa : DA) : DI := fun ρ st => (fa ρ st).bind fun rs st1 => match rs with
  | [.val (.int j)] => if -1000000000000 < j ∧ j < 1000000000000 then .ok (ups 0 j.toNat, fun _ => True) st1 else .bad
  | _ => .bad
def iRange2 (fa : DA) : DI := fun ρ st => (fa ρ st).bind fun rs st1 => match rs with
  | [.val (.int i), .val (.int j)] => if (-1000000000000 < i ∧ i < 1000000000000) ∧ (-1000000000000 < j ∧ j < 1000000000000) then .ok (ups i (j - i).toNat, fun _ => True) st1 else .bad
  | _ => .bad
theorem ups_len (lo : Int) (n : Nat) : (ups lo n).length = n := by simp [ups]
theorem ups_get {lo : Int} {n i : Nat} (h : i < n) : (ups lo n)[i]? = some (D.int (lo + (i : Nat))) := by
  unfold ups
  rw [List.getElem?_map, List.getElem?_range h]
  rfl
theorem walkR {K : PySem.W.Frag} {μ : List Addr} {H : Hp} {lo : Int} {n : Nat} : WalkX K μ H (Itr lo n) (ups lo n) (fun _ => True) := by
  refine ⟨fun μ' H' st' i s p' c hi => by rw [ups_len] at hi; exact hi, fun μ' H' st' s p' c => by rw [ups_len]; exact Nat.le_refl _, fun μ' H' st' i y H2 s p' c hi q => ?_⟩
  rw [ups_len] at hi
  obtain ⟨rfl, e⟩ := q
  exact ⟨_, ups_get hi, Step.refl, p', by rw [e]; exact Rv.int'⟩
section
variable {X : Cx} {E : XK} {tg a b : Expr} {f1 : DE} {fa : DA} {pos pp : Pos}
theorem xi_seq (h : PX X E a f1) : PXI X E tg a (iSeq f1) := pi_imp (pi_or (pi_tup h) (pi_list h)) fun σ H R h => by
  obtain ⟨μ, ρ, st, p, e, h⟩ := h
  cases q0 : f1 ρ st with
  | bad => unfold iSeq at h; rw [q0] at h; exact h.elim
  | exc c st1 =>
    unfold iSeq at h; rw [q0] at h
    exact .inl ⟨μ, ρ, st, p, e, by rw [q0]; exact h⟩
  | ok r st1 =>
    by_cases z : ∃ ds, r = .val (.tup ds) ∨ r = .val (.kt ds)
    · obtain ⟨ds, z⟩ := z
      rcases z with z | z
      · subst z
        refine .inl (tg_bind relW_ok p e h fun r1 st1 v μ1 H1 q s1 p1 e1 rr1 h0 h1 => ?_)
        rw [q0] at q; cases q
        obtain ⟨x, vs, e2, q2, w⟩ := walkT rr1.tup
        exact ⟨x, e2, ⟨vs, q2⟩, h1 _ _ _ Step.refl p1 w⟩
      · subst z
        refine .inl (tg_bind relW_ok p e h fun r1 st1 v μ1 H1 q s1 p1 e1 rr1 h0 h1 => ?_)
        rw [q0] at q; cases q
        obtain ⟨x, vs, e2, q2, w⟩ := walkT rr1.kt
        exact ⟨x, e2, ⟨vs, q2⟩, h1 _ _ _ Step.refl p1 w⟩
    · refine .inr (tg_bind relW_ok p e h fun r1 st1 v μ1 H1 q s1 p1 e1 rr1 h0 h1 => ?_)
      rw [q0] at q; cases q
      split at h1
      · rename_i ds; exact absurd ⟨ds, .inl rfl⟩ z
      · rename_i ds; exact absurd ⟨ds, .inr rfl⟩ z
      · split at h1
        · rename_i ds q3
          obtain ⟨x, e2, w⟩ := walkL p1 rr1 q3
          obtain ⟨y, vs, e4, q4, _⟩ := asLr_ok p1 rr1 q3
          rw [e2] at e4; cases e4
          exact ⟨x, e2, ⟨vs, q4⟩, h1 _ _ _ Step.refl p1 w⟩
        · exact h1.elim
theorem xi_range1 (hg : Gl X "range") (hm : X.mg "range" = none) (ha : PXA X E [a] fa) (hs : starEach [a] X.env = [(false, eval a X.env)] := by rfl) : PXI X E tg (.Call (.Name "range" pp) [a] [] pos) (iRange1 fa) := pi_imp (pi_range1 hg hm ha hs) fun σ H R h => by
  obtain ⟨μ, ρ, st, p, e, h⟩ := h
  refine tg_bind relW_ok p e h fun rs st1 vs μ1 H1 q s1 p1 e1 rr1 h0 h1 => ?_
  split at h1
  · rename_i j
    split at h1
    · rename_i hj
      obtain ⟨v, ev, r⟩ := rr1.one
      exact ⟨j, by rw [ev, r.int], by omega, by omega, h1 _ _ _ Step.refl p1 walkR⟩
    · exact h1.elim
  · exact h1.elim
theorem xi_range2 (hg : Gl X "range") (hm : X.mg "range" = none) (ha : PXA X E [a, b] fa) (hs : starEach [a, b] X.env = [(false, eval a X.env), (false, eval b X.env)] := by rfl) (hs2 : starEach [b] X.env = [(false, eval b X.env)] := by rfl) : PXI X E tg (.Call (.Name "range" pp) [a, b] [] pos) (iRange2 fa) := pi_imp (pi_range2 hg hm ha hs hs2) fun σ H R h => by
  obtain ⟨μ, ρ, st, p, e, h⟩ := h
  refine tg_bind relW_ok p e h fun rs st1 vs μ1 H1 q s1 p1 e1 rr1 h0 h1 => ?_
  split at h1
  · rename_i i j
    split at h1
    · rename_i hj
      obtain ⟨v, w, ev, r, r'⟩ := rr1.two
      exact ⟨i, j, by rw [ev, r.int, r'.int], by omega, h1 _ _ _ Step.refl p1 walkR⟩
    · exact h1.elim
  · exact h1.elim
end

/-! ### for -/
open Classical in
noncomputable def forL (chk : Chk) (tg : Tg) (body : DS) (ks : List Nat) : List D → En → Sto → SO
  | [], ρ, st => if chk st then .nx ρ st else .bad
  | d :: ds, ρ, st => if chk st then match bindT tg d ρ with
      | none => .bad
      | some ρ1 => match body ρ1 st with
        | .nx ρ2 st2 => forL chk tg body ks ds (tidy ks ρ1 st ρ2 st2).1 (tidy ks ρ1 st ρ2 st2).2
        | .ct ρ2 st2 => forL chk tg body ks ds (tidy ks ρ1 st ρ2 st2).1 (tidy ks ρ1 st ρ2 st2).2
        | .bk ρ2 st2 => .nx ρ2 st2
        | .rt r st2 => .rt r st2
        | .exc c ρ2 st2 => .exc c ρ2 st2
        | .bad => .bad
    else .bad
noncomputable def sFor (src : DI) (tg : Tg) (body : DS) (ks : List Nat) : DS := fun ρ st => SO.of ρ (src ρ st) fun p st1 => forL p.2 tg body ks p.1 ρ st1
section
variable {K : PySem.W.Frag} {mg : Str → Option Value} {E : XK}
theorem tg_for {src : DI} {tg : Tg} {body : DS} {ks : List Nat} (D : Ends) (σ : L2.St) (H : Hp) (h : TXS K mg E (sFor src tg body ks) D σ H) : tFor (TXI K mg E src) (gOf K tg) (TXS K mg E body) D σ H := by
  obtain ⟨μ, ρ, st, p, e, h⟩ := h
  refine ts_bind p e h fun pr st1 J μ1 H1 q s1 p1 e1 w h0 h1 => ?_
  obtain ⟨items, chk⟩ := pr
  have w' : WalkX K μ1 H1 J items chk := w
  refine ⟨fun i m σ H => m = items.length - i ∧ i ≤ items.length ∧ ∃ μ ρ st, Step μ1 H1 μ H ∧ Rep K μ H st ∧ RvE K μ H σ ρ ∧ FinS K mg E μ1 H1 (forL chk tg body ks (items.drop i) ρ st) D, ⟨items.length, by simp, Nat.zero_le _, μ1, ρ, st1, Step.refl, p1, e1, h1⟩, ?_⟩
  rintro i m σ2 H2 ⟨rfl, hi, μ2, ρ2, st2, s2, p2, e2, f2⟩
  by_cases hlt : i < items.length
  · rw [List.drop_eq_getElem_cons hlt] at f2
    unfold forL at f2
    split at f2
    · rename_i hc
      refine .inr ⟨w'.go μ2 H2 st2 i s2 p2 hc hlt, ?_⟩
      refine ⟨fun σ H => i + 1 ≤ items.length ∧ ∃ μ ρ st, Step μ1 H1 μ H ∧ Rep K μ H st ∧ RvE K μ H σ ρ ∧ FinS K mg E μ1 H1 (forL chk tg body ks (items.drop (i + 1)) ρ st) D, fun σ' H' hn => ⟨items.length - (i + 1), by omega, rfl, hn.1, hn.2⟩, fun x H' hy => ?_⟩
      obtain ⟨d, ed, s3, p3, r3⟩ := w'.yld μ2 H2 st2 i x H' s2 p2 hc hlt hy
      rw [List.getElem?_eq_getElem hlt] at ed
      have ed' := Option.some.inj ed
      have e3 := e2.mono s3
      split at f2
      · exact f2.elim
      · rename_i ρ3 eb
        rw [ed'] at eb
        refine bindT_ok tg d eb r3 e3 fun σ4 e4 o4 => ?_
        refine ⟨μ2, ρ3, st2, p3, e4, ?_⟩
        have s23 := s2.trans s3
        cases z : body ρ3 st2 with
        | bad => rw [z] at f2; exact f2
        | exc c ρ5 st5 => rw [z] at f2; exact FinS.later s23 f2
        | rt r st5 => rw [z] at f2; exact FinS.later s23 f2
        | bk ρ5 st5 => rw [z] at f2; exact FinS.later s23 f2
        | nx ρ5 st5 =>
          rw [z] at f2
          intro σ5 μ5 H5 s5 p5 e5
          obtain ⟨μ6, s6, p6, e6⟩ := tidy_ok (ks := ks) s23 p3 e4 s5 p5 e5
          exact ⟨by omega, μ6, _, _, s6, p6, e6, f2⟩
        | ct ρ5 st5 =>
          rw [z] at f2
          intro σ5 μ5 H5 s5 p5 e5
          obtain ⟨μ6, s6, p6, e6⟩ := tidy_ok (ks := ks) s23 p3 e4 s5 p5 e5
          exact ⟨by omega, μ6, _, _, s6, p6, e6, f2⟩
    · exact f2.elim
  · have ei : i = items.length := by omega
    subst ei
    rw [List.drop_length] at f2
    unfold forL at f2
    split at f2
    · rename_i hc
      exact .inl ⟨w'.stop μ2 H2 st2 s2 p2 hc, f2 σ2 μ2 H2 s2 p2 e2⟩
    · exact f2.elim
end
section
variable {X : Cx} {E : XK} {tg iter : Expr} {t : Tg} {src : DI} {s1 : DS} {body : List Stmt} {pos : Pos}
theorem xs_for (ks : List Nat) (hp : PassesOwn (model X.prog X.w) X.A X.env X.xe) (hc : X.calm = true) (hi : PXI X E tg iter src) (hg : PG X tg (gOf X.K t)) (hb : PXSs X E body s1)
    (hs : ∀ x, foldedSetIterable iter X.env x = pure x := by intro _; rfl) : PXS X E (.For tg iter body [] pos) (sFor src t s1 ks) := ps_imp (ps_for hp hc hi hg hb hs) tg_for
end

/-! ### while -/
noncomputable def whileN (c : DT) (body : DS) (ks : List Nat) : Nat → En → Sto → SO
  | 0, _, _ => .bad
  | n + 1, ρ, st => SO.of ρ (c ρ st) fun b st1 => if b = true then match body ρ st1 with
      | .nx ρ2 st2 => whileN c body ks n (tidy ks ρ st1 ρ2 st2).1 (tidy ks ρ st1 ρ2 st2).2
      | .ct ρ2 st2 => whileN c body ks n (tidy ks ρ st1 ρ2 st2).1 (tidy ks ρ st1 ρ2 st2).2
      | .bk ρ2 st2 => .nx ρ2 st2
      | .rt r st2 => .rt r st2
      | .exc c ρ2 st2 => .exc c ρ2 st2
      | .bad => .bad
    else .nx ρ st1
theorem whileN_mono {c : DT} {body : DS} {ks : List Nat} : ∀ {n : Nat} {ρ : En} {st : Sto} {m : Nat}, whileN c body ks n ρ st ≠ .bad → n ≤ m → whileN c body ks m ρ st = whileN c body ks n ρ st
  | 0, _, _, _, h, _ => absurd rfl h
  | n + 1, ρ, st, 0, _, h => by omega
  | n + 1, ρ, st, m + 1, h, hm => by
    unfold whileN at h ⊢
    cases q : c ρ st with
    | bad => rfl
    | exc c st1 => rfl
    | ok b st1 =>
      rw [q] at h
      simp only [SO.of_ok] at h ⊢
      cases b with
      | false => rfl
      | true =>
        simp only [if_true] at h ⊢
        cases z : body ρ st1 with
        | nx ρ2 st2 => rw [z] at h; exact whileN_mono h (by omega)
        | ct ρ2 st2 => rw [z] at h; exact whileN_mono h (by omega)
        | bk ρ2 st2 => rfl
        | rt r st2 => rfl
        | exc c ρ2 st2 => rfl
        | bad => rfl
open Classical in
noncomputable def sWhile (c : DT) (body : DS) (ks : List Nat) : DS := fun ρ st => if h : ∃ n, whileN c body ks n ρ st ≠ .bad then whileN c body ks (Classical.choose h) ρ st else .bad
/-- what a while comes to: by any number of turns that is enough -/
theorem sWhile_of {c : DT} {body : DS} {ks : List Nat} {ρ : En} {st : Sto} {n : Nat} {o : SO} (h : whileN c body ks n ρ st = o) (hb : o ≠ .bad) : sWhile c body ks ρ st = o := by
  have hx : ∃ n, whileN c body ks n ρ st ≠ .bad := ⟨n, by rw [h]; exact hb⟩
  unfold sWhile
  rw [dif_pos hx]
  have hy := Classical.choose_spec hx
  rcases Nat.le_total n (Classical.choose hx) with z | z
  · rw [whileN_mono (by rw [h]; exact hb) z, h]
  · rw [← whileN_mono hy z, h]
section
variable {K : PySem.W.Frag} {mg : Str → Option Value} {E : XK}
theorem tg_while {c : DT} {body : DS} {ks : List Nat} (D : Ends) (σ : L2.St) (H : Hp) (h : TXS K mg E (sWhile c body ks) D σ H) : tWhile (TXT K mg E c) (TXS K mg E body) D σ H := by
  obtain ⟨μ0, ρ, st, p, e, h⟩ := h
  unfold sWhile at h
  split at h
  · rename_i hx
    refine ⟨fun m σ' H' => ∃ μ ρ st, Step μ0 H μ H' ∧ Rep K μ H' st ∧ RvE K μ H' σ' ρ ∧ FinS K mg E μ0 H (whileN c body ks m ρ st) D, ⟨_, μ0, ρ, st, Step.refl, p, e, h⟩, ?_⟩
    rintro m σ1 H1 ⟨μ1, ρ1, st1, s1, p1, e1, f1⟩
    cases m with
    | zero => exact f1.elim
    | succ n =>
      unfold whileN at f1
      have f1' := FinS.later s1 f1
      refine ts_bind (Rel := relB) p1 e1 f1' fun b st2 v μ2 H2 q s2 p2 e2 rr2 h0 h2 => ?_
      cases (show v = b from rr2)
      rw [q] at f1
      simp only [SO.of_ok] at f1
      have s12 := s1.trans s2
      cases b with
      | false => exact f1 σ1 μ2 H2 s12 p2 e2
      | true =>
        simp only [if_true] at f1
        show ∃ N : L2.St → Hp → Prop, _
        refine ⟨fun σ' H' => ∃ μ ρ st, Step μ0 H μ H' ∧ Rep K μ H' st ∧ RvE K μ H' σ' ρ ∧ FinS K mg E μ0 H (whileN c body ks n ρ st) D, fun σ' H' hn => ⟨n, Nat.lt_succ_self n, hn⟩, μ2, ρ1, st2, p2, e2, ?_⟩
        cases z : body ρ1 st2 with
        | bad => rw [z] at f1; exact f1
        | exc c ρ5 st5 => rw [z] at f1; exact FinS.later s12 f1
        | rt r st5 => rw [z] at f1; exact FinS.later s12 f1
        | bk ρ5 st5 => rw [z] at f1; exact FinS.later s12 f1
        | nx ρ5 st5 =>
          rw [z] at f1
          intro σ5 μ5 H5 s5 p5 e5
          obtain ⟨μ6, s6, p6, e6⟩ := tidy_ok (ks := ks) s12 p2 e2 s5 p5 e5
          exact ⟨μ6, _, _, s6, p6, e6, f1⟩
        | ct ρ5 st5 =>
          rw [z] at f1
          intro σ5 μ5 H5 s5 p5 e5
          obtain ⟨μ6, s6, p6, e6⟩ := tidy_ok (ks := ks) s12 p2 e2 s5 p5 e5
          exact ⟨μ6, _, _, s6, p6, e6, f1⟩
  · exact h.elim
end
section
variable {X : Cx} {E : XK} {c : Expr} {t : DT} {s1 : DS} {body : List Stmt} {pos : Pos}
theorem xs_while (ks : List Nat) (hp : PassesOwn (model X.prog X.w) X.A X.env X.xe) (hc : PXT X E c t) (hb : PXSs X E body s1) : PXS X E (.While c body [] pos) (sWhile t s1 ks) := ps_imp (ps_while hp hc hb) tg_while
end

/-! ### comprehensions -/
open Classical in
noncomputable def lcL (chk : Chk) (tg : Tg) (tt : DT) (el : DE) (ρ : En) : List D → Sto → List D → Out (List D)
  | [], st, acc => if chk st then .ok acc st else .bad
  | d :: ds, st, acc => if chk st then match bindT tg d ρ with
      | none => .bad
      | some ρ1 => match tt ρ1 st with
        | .ok false st1 => lcL chk tg tt el ρ ds st1 acc
        | .ok true st1 => match el ρ1 st1 with
          | .ok r st2 => if acc.length < 1000000 then lcL chk tg tt el ρ ds (toD r st2).2 (acc ++ [(toD r st2).1]) else .bad
          | _ => .bad
        | _ => .bad
    else .bad
noncomputable def dLc (src : DI) (tg : Tg) (tt : DT) (el : DE) (ws : List Nat) : DE := fun ρ st => (src ρ st).bind fun p st1 => (lcL p.2 tg tt el (wipeE ρ ws) p.1 st1 []).bind fun acc st2 => .ok (.new (.lst acc)) st2
theorem lcL_ok {chk : Chk} {tg : Tg} {tt : DT} {el : DE} {ρ : En} : ∀ (ds : List D) (st : Sto) (acc : List D), (∃ r st', lcL chk tg tt el ρ ds st acc = .ok r st') ∨ lcL chk tg tt el ρ ds st acc = .bad
  | [], st, acc => by
    unfold lcL
    split
    · exact .inl ⟨_, _, rfl⟩
    · exact .inr rfl
  | d :: ds, st, acc => by
    unfold lcL
    split
    · split
      · exact .inr rfl
      · split
        · exact lcL_ok ds _ _
        · split
          · split
            · exact lcL_ok ds _ _
            · exact .inr rfl
          · exact .inr rfl
        · exact .inr rfl
    · exact .inr rfl
theorem off_wipe {σ σ' : L2.St} {vs l : List Nat} (o : Off l (L2.wipe σ vs) σ') (h : ∀ i ∈ l, i ∈ vs) : L2.wipe σ' vs = L2.wipe σ vs := by
  apply List.ext_getElem?
  intro i
  have hl : σ'.length = σ.length := by rw [o.1, wipe_length]
  by_cases hi : i ∈ vs
  · rw [wipe_in hi, wipe_in hi, hl]
  · rw [wipe_get hi, wipe_get hi, o.2 i (fun z => hi (h i z)), wipe_get hi]
where
  wipe_in {σ : L2.St} {i : Nat} : ∀ {vs : List Nat}, i ∈ vs → (L2.wipe σ vs)[i]? = if i < σ.length then some none else none
    | v :: vs, h => by
      unfold L2.wipe
      rw [List.getElem?_set]
      by_cases hv : v = i
      · subst hv
        rw [if_pos rfl, wipe_length]
      · rw [if_neg hv]
        exact wipe_in ((List.mem_cons.mp h).elim (fun e => absurd e.symm hv) id)
section
variable {K : PySem.W.Frag} {mg : Str → Option Value} {E : XK} {μ μ' μ1 : List Addr} {H H' H1 : Hp} {st : Sto}
/-- an object that is nobody's is changed -/
theorem Step.own (s : Step μ1 H1 μ H) {a : Addr} {o : HO} (h : H1 a = none) : Step μ1 H1 μ (upd H a o) :=
  ⟨s.pre, fun b xs e => by rw [upd_ne (ne_of_none e h)]; exact s.tup b xs e, fun b u v e => by rw [upd_ne (ne_of_none e h)]; exact s.frz b u v e, fun b u e n => by rw [upd_ne (ne_of_none e h)]; exact s.oth b u e n, fun b e => by
    by_cases z : b = a
    · rw [z]; exact h
    · rw [upd_ne z] at e; exact s.free b e⟩
theorem Rep.own (p : Rep K μ H st) {a : Addr} {o : HO} {xs : List V} (h : H a = some (.lst xs)) (n : a ∉ μ) : Rep K μ (upd H a o) st :=
  p.keep ⟨fun _ _ z => z, fun b xs e => by rw [upd_ne (fun z => by rw [z, h] at e; cases e)]; exact e, fun b u v e => by rw [upd_ne (fun z => by rw [z, h] at e; cases e)]; exact e⟩ fun b hb u e => by
    rw [upd_ne (fun z => n (by rw [← z]; exact hb))]; exact e
theorem Ext.own {a : Addr} {o : HO} {xs : List V} (h : H a = some (.lst xs)) : Ext μ H μ (upd H a o) :=
  ⟨fun _ _ z => z, fun b xs e => by rw [upd_ne (fun z => by rw [z, h] at e; cases e)]; exact e, fun b u v e => by rw [upd_ne (fun z => by rw [z, h] at e; cases e)]; exact e⟩
theorem tg_lc {src : DI} {tg : Tg} {tt : DT} {el : DE} {ws : List Nat} (hw : ∀ i ∈ tg.ix, i ∈ ws) (σ : L2.St) (H : Hp) (Q : VK) (h : TX K mg E (dLc src tg tt el ws) σ H Q) : tLc (TXI K mg E src) (gOf K tg) (TXT K mg E0 tt) (TX K mg E0 el) ws σ H Q := by
  obtain ⟨μ, ρ, st, p, e, h⟩ := h
  refine tg_bind relR_ok p e h fun pr st1 J μ1 H1 q s1 p1 e1 w h0 h1 => ?_
  obtain ⟨items, chk⟩ := pr
  have w' : WalkX K μ1 H1 J items chk := w
  intro D hD
  have nD1 : D ∉ μ1 := p1.notin hD
  refine ⟨fun i m H => m = items.length - i ∧ i ≤ items.length ∧ ∃ μ st acc vs, Step μ1 H1 μ H ∧ Rep K μ H st ∧ H D = some (.lst vs) ∧ D ∉ μ ∧ Rvs K μ H vs acc ∧ FinG K mg E (relR K) μ1 H1 ((lcL chk tg tt el (wipeE ρ ws) (items.drop i) st acc).bind fun acc st2 => .ok (.new (.lst acc)) st2) Q,
    ⟨items.length, by simp, Nat.zero_le _, μ1, st1, [], [], Step.new hD, p1.new hD, upd_same, nD1, Rvs.nil, h1⟩, ?_⟩
  rintro i m H2 ⟨rfl, hi, μ2, st2, acc, vs, s2, p2, hD2, nD2, r2, f2⟩
  by_cases hlt : i < items.length
  · rw [List.drop_eq_getElem_cons hlt] at f2
    unfold lcL at f2
    split at f2
    · rename_i hc
      refine .inr ⟨w'.go μ2 H2 st2 i s2 p2 hc hlt, ?_⟩
      refine ⟨fun H => i + 1 ≤ items.length ∧ ∃ μ st acc vs, Step μ1 H1 μ H ∧ Rep K μ H st ∧ H D = some (.lst vs) ∧ D ∉ μ ∧ Rvs K μ H vs acc ∧ FinG K mg E (relR K) μ1 H1 ((lcL chk tg tt el (wipeE ρ ws) (items.drop (i + 1)) st acc).bind fun acc st2 => .ok (.new (.lst acc)) st2) Q, fun H' hn => ⟨items.length - (i + 1), by omega, rfl, hn.1, hn.2⟩, fun x H3 hy => ?_⟩
      obtain ⟨d, ed, s3, p3, r3⟩ := w'.yld μ2 H2 st2 i x H3 s2 p2 hc hlt hy
      rw [List.getElem?_eq_getElem hlt] at ed
      have ed' := Option.some.inj ed
      have s23 := s2.trans s3
      have e3 : RvE K μ2 H3 (L2.wipe σ ws) (wipeE ρ ws) := (e1.mono s23).wipe2 ws
      have hD3 := s3.oth _ _ hD2 nD2
      split at f2
      · exact f2.elim
      · rename_i ρ4 eb
        rw [ed'] at eb
        refine bindT_ok tg d eb r3 e3 fun σ4 e4 o4 => ⟨off_wipe o4 hw, ?_⟩
        refine ⟨μ2, ρ4, st2, p3, e4, ?_⟩
        cases z : tt ρ4 st2 with
        | bad => rw [z] at f2; exact f2
        | exc c st5 => rw [z] at f2; exact f2.elim
        | ok b st5 =>
          rw [z] at f2
          intro b' μ5 H5 s5 p5 rb
          cases (show b' = b from rb)
          have hD5 := s5.oth _ _ hD3 nD2
          have nD5 : D ∉ μ5 := by
            obtain ⟨ν, en, f⟩ := s5.pre
            rw [en]
            intro zz
            rcases List.mem_append.mp zz with zz | zz
            · exact nD2 zz
            · rw [f D zz] at hD3; cases hD3
          have s35 := s23.trans s5
          cases b with
          | false =>
            show i + 1 ≤ items.length ∧ _
            exact ⟨by omega, μ5, st5, acc, vs, s35, p5, hD5, nD5, Rvs.mono (s3.trans s5) _ r2, f2⟩
          | true =>
            show TX K mg E0 el σ4 H5 _
            refine ⟨μ5, ρ4, st5, p5, e4.mono s5, ?_⟩
            dsimp only at f2
            cases z2 : el ρ4 st5 with
            | bad => rw [z2] at f2; exact f2
            | exc c st6 => rw [z2] at f2; exact f2.elim
            | ok r st6 =>
              rw [z2] at f2
              intro y μ6 H6 s6 p6 ry
              have hD6 := s6.oth _ _ hD5 nD5
              have nD6 : D ∉ μ6 := by
                obtain ⟨ν, en, f⟩ := s6.pre
                rw [en]
                intro zz
                rcases List.mem_append.mp zz with zz | zz
                · exact nD5 zz
                · rw [f D zz] at hD5; cases hD5
              have r6 := Rvs.mono ((s3.trans s5).trans s6) _ r2
              dsimp only at f2
              split at f2
              · rename_i hacc
                have s36 := s35.trans s6
                have toD' : ∃ μ7, Step μ1 H1 μ7 H6 ∧ Ext μ6 H6 μ7 H6 ∧ Rep K μ7 H6 (toD r st6).2 ∧ Rv K μ7 H6 y (toD r st6).1 ∧ D ∉ μ7 := by
                  cases r with
                  | val d => exact ⟨μ6, s36, Step.refl.ext, p6, ry, nD6⟩
                  | new o =>
                    obtain ⟨a, ea, fa, na, qa⟩ := ry
                    refine ⟨μ6 ++ [a], s36.add (s35.free a fa), Ext.add, p6.add na qa, ?_, fun zz => ?_⟩
                    · unfold toD Rv
                      exact ⟨a, ea, by rw [← p6.len, List.getElem?_append_right (Nat.le_refl _)]; simp⟩
                    · rcases List.mem_append.mp zz with zz | zz
                      · exact nD6 zz
                      · rw [List.mem_singleton.mp zz, fa] at hD5; cases hD5
                obtain ⟨μ7, s7, x7, p7, r7, nD7⟩ := toD'
                refine ⟨vs, hD6, big_lt (by rw [r2.len]; exact hacc), by omega, μ7, _, _, _, s7.own hD, p7.own hD6 nD7, upd_same, nD7, Rvs.append (Rvs.ext (Ext.own hD6) _ (Rvs.ext x7 _ r6)) (Rvs.one (Rv.ext (Ext.own hD6) _ r7)), f2⟩
              · exact f2.elim
    · exact f2.elim
  · have ei : i = items.length := by omega
    subst ei
    rw [List.drop_length] at f2
    unfold lcL at f2
    split at f2
    · rename_i hc
      exact .inl ⟨w'.stop μ2 H2 st2 s2 p2 hc, f2 _ μ2 H2 s2 p2 ⟨D, rfl, hD, nD2, vs, hD2, r2⟩⟩
    · exact f2.elim
end
end MM
namespace MM
open PySem PySem.Spec PyProof.Rows L2
/-! ### enumerate(tuple) -/
theorem meets_enumerate_new1 {v : Value} {o : Obj} {H : Heap → Prop} (B : Begins v o H) :
    Meets (Builtin.«enumerate.__new__» ⟨[.type "enumerate", v], []⟩) (fun _ R s => H s.heap ∧
      R (.ok (.ret (.ref (s.heap.push o).objs.size))) { s with heap := (s.heap.push o).push { cls := .type "enumerate", data := .fields #[.none, .bool false, .ref s.heap.objs.size, rawInt 0, .none, .none] } }) :=
  .of_wp fun prog w A R s h => by
    obtain ⟨hp, g, d, tk, os⟩ := s; obtain ⟨h1, h⟩ := h
    have hsub := sub_enumerate
    have q1 : ∀ {A' : Around} {E : Value → Shared → Prop} {Q : Value → Shared → Prop}, Q (.ref hp.objs.size) ⟨hp.push o, g, d, tk, os⟩ → wpAny (model prog w) A' (pyIter v) Q E ⟨hp, g, d, tk, os⟩ :=
      fun q => B.iter prog w _ _ ⟨hp, g, d, tk, os⟩ _ h1 q
    wp_walk using q1
    refine wpAny_stack_any fun st => wpAny_pure ?_
    split
    · rename_i c _ _ _ _ _
      cases (c == Value.type "enumerate")
      · wp_walk using q1
        exact ⟨_, rfl, h⟩
      · wp_walk using q1
        exact ⟨_, rfl, h⟩
    · wp_walk using q1
      exact ⟨_, rfl, h⟩
theorem call_enumerate_begins {prog : Program} {w : World} {A : Around} {E : Value → Shared → Prop} {s : Shared} {v : Value} {o : Obj} {H : Heap → Prop} {Q : Value → Shared → Prop} (B : Begins v o H) (h1 : H s.heap)
    (h : ∀ h', IsEnum h' (s.heap.objs.size + 1) s.heap.objs.size 0 .none → h'.get? s.heap.objs.size = some o → h'.objs.size = s.heap.objs.size + 2 →
      (∀ b o, s.heap.get? b = some o → h'.get? b = some o) → Q (.ref (s.heap.objs.size + 1)) { s with heap := h' }) :
    wpAny (model prog w) A (call (.type "enumerate") [v]) Q E s := by
  refine callType_new F.called_enumerate (by decide) (F.typeCall_enumerate_1 _) (F.newCall_enumerate_1 _) (fun obj => F.args_object_init_2 obj _) F.entry_enumerate_new
    (meets_enumerate_new1 B) ⟨h1, ?_⟩
  have hz : (s.heap.push o).objs.size = s.heap.objs.size + 1 := Heap.size_push ..
  show _ ∧ _
  rw [hz]
  have he : IsEnum ((s.heap.push o).push { cls := .type "enumerate", data := .fields #[.none, .bool false, .ref s.heap.objs.size, rawInt 0, .none, .none] }) (s.heap.objs.size + 1) s.heap.objs.size 0 .none := by
    have := Heap.get?_push_size (s.heap.push o) (o := { cls := .type "enumerate", data := .fields #[.none, .bool false, .ref s.heap.objs.size, rawInt 0, .none, .none] }) rfl
    rw [hz] at this; exact this
  refine ⟨⟨_, he, rfl⟩, h _ he (Heap.get?_push_of_some _ (Heap.get?_push_size _ B.free)) (by rw [Heap.size_push, hz]) fun b o x => Heap.get?_push_of_some _ (Heap.get?_push_of_some _ x)⟩
def IteT (K : PySem.W.Frag) (a : Addr) : It :=
  ⟨fun i H => ∃ (xs : List V) (x : V), SqT K H a xs ∧ xs[i]? = some x, fun i H v H' => ∃ T x, v = .ref T ∧ H T = none ∧ H' = upd H T (.tup [.int (i : Nat), x]) ∧ ∀ xs, SqT K H a xs → xs[i]? = some x, fun i H => ∃ xs : List V, SqT K H a xs ∧ xs.length ≤ i⟩
theorem ne_cls {h : Heap} {a b : Addr} {o u : Obj} (ha : h.get? a = some o) (hb : h.get? b = some u) (n : o.cls ≠ u.cls) : a ≠ b := fun z => by
  subst z
  rw [ha] at hb
  cases hb
  exact n rfl
theorem turn_enumT {P : Program} {w : World} {K : PySem.W.Frag} {elts : List Expr} {kk : Nat} {tpos : Pos} (a e it : Addr) :
    Turn P w K (.Tuple elts kk tpos) (IteT K a) [e, it] e (fun i h => (∃ old, IsEnum h e it ((i : Nat) : Int) old) ∧ h.IsTupleIter it a i ∧ e ≠ it) where
  mem := by simp
  obj := fun i h st b hb => by
    obtain ⟨⟨old, he⟩, ⟨o, ho, hc, hd⟩, _⟩ := st
    have e' : b = e ∨ b = it := by simpa using hb
    rcases e' with z | z
    · rw [z]; exact ⟨_, he, fun v q => nomatch q⟩
    · rw [z]; exact ⟨o, ho, fun v q => by rw [hd] at q; cases q⟩
  keep := fun i h h' st k => let ⟨⟨old, he⟩, hi, hne⟩ := st; ⟨⟨old, k e (by simp) _ he⟩, hi.at fun o q => k it (by simp) o q, hne⟩
  item := by
    intro X hP hw hK hc i pins s σ H E I hf st hg
    subst hP hw hK
    obtain ⟨⟨old, he⟩, hit, hne⟩ := st
    obtain ⟨xs, x, hq, hx⟩ := hg
    obtain ⟨its, rv, p, hz⟩ := I.tuple hq
    obtain ⟨u, hu, ru⟩ := rv.get hx
    have hel : e < s.heap.objs.size := Heap.lt_size he
    have hil : it < s.heap.objs.size := by obtain ⟨_, q, _⟩ := hit; exact Heap.lt_size q
    have hae : e ≠ a := by
      obtain ⟨oa, qa, ca, _⟩ := id p
      exact ne_cls he qa (by rw [ca]; intro z; injection z with z; exact absurd z (by decide))
    have hai : a ≠ it := by
      obtain ⟨oa, qa, ca, _⟩ := id p
      obtain ⟨oi, qi, ci, _⟩ := id hit
      exact ne_cls qa qi (by rw [ca, ci]; intro z; injection z with z; exact absurd z (by decide))
    have D := Draws.tuple (prog := X.prog) (w := X.w) (A := X.A.in1) (I.ok.hd hc) it a hai its.toArray
    have hlt : i < its.toArray.size := by
      have := (List.getElem?_eq_some_iff.mp hu).1
      simpa using this
    refine wpAny_pyNext_enum_itemC D he ⟨hit, p⟩ hlt hne (by simp [hne, hae]) fun x' h' tk hP ho hit' hT hsz hk => ?_
    have ex : x' = u := by
      have h1 : its.toArray[i]? = some x' := hP
      have h2 : its.toArray[i]? = some u := by simpa using hu
      rw [h1] at h2
      exact Option.some.inj h2
    subst ex
    refine ⟨_, rfl, wpAny_letOwnedTupleGo_enum (s := { s with heap := h', toks := tk + 1 }) ho fun h'' he' sb => ?_⟩
    have hT2 : h''.get? s.heap.objs.size = some { cls := .type "tuple", data := .seq #[.int i tk, x'] } := (sb.2 _ (Nat.ne_of_gt hel)).trans hT
    have new : ObjOk X.prog X.w (upd H s.heap.objs.size (.tup [.int (i : Nat), x])) h'' s.heap.objs.size (.tup [.int (i : Nat), x]) :=
      ⟨by show 2 ≤ sizeLine; decide, [.int i tk, x'], .cons ⟨_, rfl⟩ (.cons ru .nil), ⟨_, hT2, rfl, _, rfl⟩⟩
    have I1 : Inv X pins σ (upd H s.heap.objs.size (.tup [.int (i : Nat), x])) { s with heap := h'', toks := tk + 1 } :=
      I.turnedNew (ch := [e, it]) (fun b ob hb q => (sb.2 b (fun z => hb (by simp [z]))).trans (hk b ob (fun z => hb (by simp [z])) (fun z => hb (by simp [z])) q)) hf (Nat.le_refl _) new
    refine ⟨.ref s.heap.objs.size, _, I1, rfl, ⟨_, x, rfl, I.hok.fresh (Nat.le_refl _), rfl, fun ys hy => by rw [I.tuple_inj hy hq]; exact hx⟩, ⟨⟨x', ?_⟩, hit'.1.at fun o q => (sb.2 it (Ne.symm hne)).trans q, hne⟩, fun b hb => ?_⟩
    · have e1 : ((i + 1 : Nat) : Int) = (i : Int) + 1 := by omega
      rw [e1]; exact he'
    · have hb' : b < s.heap.objs.size := by
        have e' : b = e ∨ b = it := by simpa using hb
        rcases e' with z | z
        · rw [z]; exact hel
        · rw [z]; exact hil
      rw [upd_ne (Nat.ne_of_lt hb')]
      exact (hf b hb).1
  done := by
    intro X hP hw hK hc i pins s σ H E I hf st hg
    subst hP hw hK
    obtain ⟨⟨old, he⟩, hit, hne⟩ := st
    obtain ⟨xs, hq, hx⟩ := hg
    obtain ⟨its, rv, p, hz⟩ := I.tuple hq
    obtain ⟨f0, f1, f2, f3, f4, f5⟩ := hf it (by simp)
    have hl := rv.length
    have hTy : s.TypeIs (.ref e) "enumerate" := ⟨_, he, rfl⟩
    unfold pyNext
    refine wpAny_bind (wpAny_attempt (wpAny_callSpecial?_slot (name := Str.ofString "__next__") hTy F.slot_enumerate_next
      (wpAny_call_entry F.slot_enumerate_next hTy F.entry_enumerate_next ?_ (F.args_enumerate_next_1 _))))
    show wpAny _ _ (field (.ref e) 2 >>= _) _ _ _
    refine wpAny_bind (wpAny_field he rfl (x := .ref it) rfl ?_)
    refine wpAny_bind (wpAny_nextOf_tuple_end (I.ok.hd hc) hit p (by simp; omega) fun h' x he' hx' => ?_)
    obtain ⟨o, ho, hc'⟩ := hx'
    refine wpAny_bind (wpAny_isInstance (T := "StopIteration") (b := true) ⟨o, ho, hc'⟩ isSubtype_stop ?_)
    exact wpAny_pure ⟨rfl, I.turned (t' := s.toks) (fun b o hb q => he' b o hb q) f0 f1 f3 f4 f5⟩
  self := fun A i s Q E st h => let ⟨⟨_, he⟩, _⟩ := st; wpAny_pyIter_enum he h
def iEnumT (K : PySem.W.Frag) (ta : TA) : TI := fun σ H R => ta σ H fun vs H1 => ∃ a xs, vs = [.ref a] ∧ SqT K H1 a xs ∧ R (IteT K a) H1
theorem pi_enumT {X : Cx} {e : Expr} {ta : TA} {p pos tpos : Pos} {elts : List Expr} {kk : Nat} (hg : Gl X "enumerate") (hm : X.mg "enumerate" = none) (ha : PA X [e] ta) (hs : starEach [e] X.env = [(false, eval e X.env)] := by rfl) :
    PI X (.Tuple elts kk tpos) (.Call (.Name "enumerate" p) [e] [] pos) (iEnumT X.K ta) := by
  refine ⟨fun pins s σ H R I h => ?_⟩
  refine Call_ (ld_blt I hg hm boot_enumerate (PyProof.Rows.callWith_type1 (thn (ha.run pos pins s σ H _ I h) fun us s1 ⟨vs, H1, I1, r1, q1⟩ => ?_) hs rfl))
  obtain ⟨a, xs, ex, hq, q⟩ := q1
  subst ex
  cases r1 with
  | cons r rr =>
    cases rr
    cases r
    obtain ⟨its, rv, p', hz⟩ := I1.tuple hq
    refine call_enumerate_begins (begins_tuple a its.toArray) p' fun h' he hit hsz hk => wpAny_pyIter_enum he ?_
    have I2 : Inv X pins σ H1 { s1 with heap := h' } := I1.kept (t' := s1.toks) hk
    refine ⟨s1.heap.objs.size + 1, [s1.heap.objs.size + 1, s1.heap.objs.size], _, _, H1, rfl, I2, turn_enumT a (s1.heap.objs.size + 1) s1.heap.objs.size, ⟨⟨.none, he⟩, ⟨_, hit, rfl, rfl⟩, Nat.succ_ne_self _⟩, fun b hb => ?_, q⟩
    have e' : b = s1.heap.objs.size + 1 ∨ b = s1.heap.objs.size := by simpa using hb
    have hle : s1.heap.objs.size ≤ b := by
      rcases e' with z | z
      · rw [z]; exact Nat.le_add_right _ _
      · rw [z]; exact Nat.le_refl _
    exact I1.fpOk hle (I1.hok.fresh hle)
end MM
namespace MM
open PySem PySem.Spec PyProof.Rows L2
/-! ### comprehensions, their rules -/
def tYes' : DT := fun _ st => .ok true st
theorem pts_imp {X : Cx} {ifs : List Expr} {t t' : TT} (h : PTs X ifs t) (i : ∀ σ H Q, t' σ H Q → t σ H Q) : PTs X ifs t' := ⟨fun pins s σ H Q I q => h.run pins s σ H Q I (i _ _ _ q)⟩
theorem xts_nil {X : Cx} {E : XK} : PTs X [] (TXT X.K X.mg E tYes') := pts_imp pts_nil fun σ H Q h => by
  obtain ⟨μ, ρ, st, p, e, h⟩ := h
  exact h true μ H Step.refl p rfl
theorem xts_one {X : Cx} {E : XK} {c : Expr} {t : DT} (h : PXT X E c t) : PTs X [c] (TXT X.K X.mg E t) := pts_one h
section
variable {X : Cx} {E : XK} {elt tg iter : Expr} {ifs : List Expr} {scope : Scope} {pos : Pos} {t : Tg} {src : DI} {tt : DT} {el : DE}
theorem x_lc (own : List (Str × Nat)) (hc : X.calm = true) (hN : X.N.Nodup) (hi : PXI X E tg iter src) (ok : BlkOk X.N X.env.scope scope own) (hw : ∀ i ∈ t.ix, i ∈ own.map (·.2))
    (hg : ∀ (s : Shared) (H : Hp) (C : Addr) (cl : List (Str × Addr)) (fp : List Addr), PG (X.blk s H scope (compEnvC scope cl C X.env) fp) tg (gOf X.K t)) (ht : ∀ (s : Shared) (H : Hp) (C : Addr) (cl : List (Str × Addr)) (fp : List Addr), PTs (X.blk s H scope (compEnvC scope cl C X.env) fp) ifs (TXT X.K X.mg E0 tt))
    (he : ∀ (s : Shared) (H : Hp) (C : Addr) (cl : List (Str × Addr)) (fp : List Addr), PX (X.blk s H scope (compEnvC scope cl C X.env) fp) E0 elt el) (hs : ∀ x, foldedSetIterable iter X.env x = pure x := by intro _; rfl) :
    PX X E (.ListComp elt [⟨tg, iter, ifs, 0⟩] scope pos) (dLc src t tt el (own.map (·.2))) := pe_imp (pe_lc hc hN hi ok hg ht he hs) (tg_lc hw)
theorem xs_setLc {i : Nat} {y : Str} {py spos : Pos} (own : List (Str × Nat)) (hc : X.calm = true) (hN : X.N.Nodup) (hy : X.N[i]? = some y) (hyl : X.env.scope.names.lookup y = some .local)
    (hsw : swapsWith (.ListComp elt [⟨tg, iter, ifs, 0⟩] scope pos) (some (.Name y py)) spos.line X.env = pure true) (hi : PXI X E tg iter src) (ok : BlkOk X.N X.env.scope scope own) (hw : ∀ i ∈ t.ix, i ∈ own.map (·.2))
    (hg : ∀ (s : Shared) (H : Hp) (C : Addr) (cl : List (Str × Addr)) (fp : List Addr), PG (X.blk s H scope (compEnvC scope cl C X.env) fp) tg (gOf X.K t)) (ht : ∀ (s : Shared) (H : Hp) (C : Addr) (cl : List (Str × Addr)) (fp : List Addr), PTs (X.blk s H scope (compEnvC scope cl C X.env) fp) ifs (TXT X.K X.mg E0 tt))
    (he : ∀ (s : Shared) (H : Hp) (C : Addr) (cl : List (Str × Addr)) (fp : List Addr), PX (X.blk s H scope (compEnvC scope cl C X.env) fp) E0 elt el) (hs : ∀ x, foldedSetIterable iter X.env x = pure x := by intro _; rfl) :
    PXS X E (.Assign [.Name y py] (.ListComp elt [⟨tg, iter, ifs, 0⟩] scope pos) spos) (sSet i (dLc src t tt el (own.map (·.2)))) := ps_imp (ps_setLc hc hN hy hyl hsw hi ok hg ht he hs) fun D σ H h => by
  obtain ⟨μ, ρ, st, p, e, h⟩ := h
  refine tg_lc hw σ H _ (ts_bind p e h fun r1 st1 v μ1 H1 q s1 p1 e1 rr1 h0 h1 => ?_)
  obtain ⟨μ2, s2, x2, p2, r2, h2⟩ := toD_ok s1 p1 rr1 h0
  exact FinS.nxt h2 p2 ((e1.ext x2).set i r2)
end

/-! ### enumerate, zip, reversed -/
def prs (f : Nat → Option D) (g : Nat → Option D) (n : Nat) : List D := (List.range n).filterMap fun i => match f i, g i with
  | some a, some b => some (.tup [a, b])
  | _, _ => none
def enums (k : Nat) : List D → List D
  | [] => []
  | d :: ds => .tup [.int k, d] :: enums (k + 1) ds
theorem enums_get : ∀ {ds : List D} {k i : Nat} {d : D}, ds[i]? = some d → (enums k ds)[i]? = some (.tup [.int ((k + i : Nat) : Int), d])
  | x :: ds, k, 0, d, h => by
    simp at h
    subst h
    rfl
  | x :: ds, k, i + 1, d, h => by
    have := enums_get (ds := ds) (k := k + 1) (i := i) (d := d) (by simpa using h)
    rw [show k + (i + 1) = k + 1 + i by omega]
    exact this
theorem enums_len : ∀ (ds : List D) (k : Nat), (enums k ds).length = ds.length
  | [], _ => rfl
  | _ :: ds, k => congrArg (· + 1) (enums_len ds (k + 1))
section
variable {K : PySem.W.Frag} {mg : Str → Option Value} {E : XK} {μ μ' μ1 μ2 μ0 : List Addr} {H H' H1 H2 H0 : Hp} {st st0 : Sto} {v : V} {a b : R} {ds es : List D}
theorem new_pair (p : Rep K μ H st) {T : Addr} {x y : V} {d e : D} (hT : H T = none) (r : Rv K μ H x d) (q : Rv K μ H y e) : Step μ H μ (upd H T (.tup [x, y])) ∧ Rep K μ (upd H T (.tup [x, y])) st ∧ Rv K μ (upd H T (.tup [x, y])) (.ref T) (.tup [d, e]) := by
  refine ⟨Step.new hT, p.new hT, ?_⟩
  unfold Rv
  exact ⟨T, _, rfl, upd_same, Rvs.mono (Step.new hT) _ (Rvs.cons r (Rvs.one q))⟩
theorem walkEL (p : Rep K μ H st) (r : RvR K μ H H0 v a) (e : asLr a st = some ds) : ∃ x, v = .ref x ∧ WalkX K μ H (Ite K x) (enums 0 ds) (chkOf a ds) := by
  obtain ⟨x, e1, later⟩ := list_later p r e
  refine ⟨x, e1, fun μ' H' st' i s p' c hi => ?_, fun μ' H' st' s p' c => ?_, fun μ' H' st' i y H2 s p' c hi q => ?_⟩
  · rw [enums_len] at hi
    obtain ⟨vs, q, rr⟩ := later μ' H' st' s p' c
    have hl : i < vs.length := by rw [rr.len]; exact hi
    exact ⟨vs, vs[i], q, List.getElem?_eq_getElem hl⟩
  · obtain ⟨vs, q, rr⟩ := later μ' H' st' s p' c
    exact ⟨vs, q, by rw [enums_len, rr.len]; exact Nat.le_refl _⟩
  · obtain ⟨vs, q1, rr⟩ := later μ' H' st' s p' c
    obtain ⟨T, x', ey, hT, eH, q2⟩ := q
    obtain ⟨d, ed, rd⟩ := rr.get' (q2 vs q1)
    obtain ⟨s3, p3, r3⟩ := new_pair p' hT (Rv.int' (i := ((i : Nat) : Int))) rd
    rw [ey, eH]
    exact ⟨_, by rw [enums_get ed, Nat.zero_add], s3, p3, r3⟩
theorem walkET (r : RvR K μ H H0 v (.val (.tup ds))) : ∃ x vs, v = .ref x ∧ SqT K H x vs ∧ WalkX K μ H (IteT K x) (enums 0 ds) (fun _ => True) := by
  obtain ⟨x, vs, e1, q1, r1⟩ := r.tup
  refine ⟨x, vs, e1, q1, fun μ' H' st' i s p' c hi => ?_, fun μ' H' st' s p' c => ?_, fun μ' H' st' i y H2 s p' c hi q => ?_⟩
  · rw [enums_len] at hi
    have hl : i < vs.length := by rw [r1.len]; exact hi
    exact ⟨vs, vs[i], s.sqt q1, List.getElem?_eq_getElem hl⟩
  · exact ⟨vs, s.sqt q1, by rw [enums_len, r1.len]; exact Nat.le_refl _⟩
  · obtain ⟨T, x', ey, hT, eH, q2⟩ := q
    obtain ⟨d, ed, rd⟩ := (Rvs.mono s ds r1).get' (q2 vs (s.sqt q1))
    obtain ⟨s3, p3, r3⟩ := new_pair p' hT (Rv.int' (i := ((i : Nat) : Int))) rd
    rw [ey, eH]
    exact ⟨_, by rw [enums_get ed, Nat.zero_add], s3, p3, r3⟩
/-- both -/
def zips : List D → List D → List D
  | d :: ds, e :: es => .tup [d, e] :: zips ds es
  | _, _ => []
theorem zips_get : ∀ {ds es : List D} {i : Nat} {d e : D}, ds[i]? = some d → es[i]? = some e → (zips ds es)[i]? = some (.tup [d, e])
  | x :: ds, y :: es, 0, d, e, h, h' => by
    simp at h h'
    subst h; subst h'
    rfl
  | x :: ds, y :: es, i + 1, d, e, h, h' => zips_get (ds := ds) (es := es) (i := i) (by simpa using h) (by simpa using h')
  | [], _, _, _, _, h, _ => by simp at h
  | _ :: _, [], _, _, _, _, h => by simp at h
theorem zips_len : ∀ (ds es : List D), (zips ds es).length = min ds.length es.length
  | [], es => by simp [zips]
  | d :: ds, [] => by simp [zips]
  | d :: ds, e :: es => by
    show (zips ds es).length + 1 = min (ds.length + 1) (es.length + 1)
    rw [zips_len ds es]
    omega
theorem walkZL {w : V} (p : Rep K μ H st) (r : RvR K μ H H0 v a) (e : asLr a st = some ds) (r' : RvR K μ H H0 w b) (e' : asLr b st = some es) : ∃ x y, v = .ref x ∧ w = .ref y ∧ WalkX K μ H (Itz K x y) (zips ds es) (fun st => chkOf a ds st ∧ chkOf b es st) := by
  obtain ⟨x, e1, later⟩ := list_later p r e
  obtain ⟨y, e2, later2⟩ := list_later p r' e'
  refine ⟨x, y, e1, e2, fun μ' H' st' i s p' c hi => ?_, fun μ' H' st' s p' c => ?_, fun μ' H' st' i z H2 s p' c hi q => ?_⟩
  · rw [zips_len] at hi
    obtain ⟨vs, q, rr⟩ := later μ' H' st' s p' c.1
    obtain ⟨ws, q', rr'⟩ := later2 μ' H' st' s p' c.2
    have hl : i < vs.length := by rw [rr.len]; omega
    have hl' : i < ws.length := by rw [rr'.len]; omega
    exact ⟨vs, ws, vs[i], ws[i], q, q', List.getElem?_eq_getElem hl, List.getElem?_eq_getElem hl'⟩
  · obtain ⟨vs, q, rr⟩ := later μ' H' st' s p' c.1
    obtain ⟨ws, q', rr'⟩ := later2 μ' H' st' s p' c.2
    exact ⟨vs, ws, q, q', by rw [zips_len, rr.len, rr'.len]; omega⟩
  · obtain ⟨vs, q1, rr⟩ := later μ' H' st' s p' c.1
    obtain ⟨ws, q1', rr'⟩ := later2 μ' H' st' s p' c.2
    obtain ⟨T, x', y', ey, hT, eH, q2, q2'⟩ := q
    obtain ⟨d, ed, rd⟩ := rr.get' (q2 vs q1)
    obtain ⟨d', ed', rd'⟩ := rr'.get' (q2' ws q1')
    obtain ⟨s3, p3, r3⟩ := new_pair p' hT rd rd'
    rw [ey, eH]
    exact ⟨_, zips_get ed ed', s3, p3, r3⟩
theorem walkZT {w : V} (r : RvR K μ H H0 v (.val (.tup ds))) (r' : RvR K μ H H0 w (.val (.tup es))) : ∃ x y vs ws, v = .ref x ∧ w = .ref y ∧ SqT K H x vs ∧ SqT K H y ws ∧ WalkX K μ H (RZ.ItzT K x y) (zips ds es) (fun _ => True) := by
  obtain ⟨x, vs, e1, q1, r1⟩ := r.tup
  obtain ⟨y, ws, e2, q1', r1'⟩ := r'.tup
  refine ⟨x, y, vs, ws, e1, e2, q1, q1', fun μ' H' st' i s p' c hi => ?_, fun μ' H' st' s p' c => ?_, fun μ' H' st' i z H2 s p' c hi q => ?_⟩
  · rw [zips_len] at hi
    have hl : i < vs.length := by rw [r1.len]; omega
    have hl' : i < ws.length := by rw [r1'.len]; omega
    exact ⟨vs, ws, vs[i], ws[i], s.sqt q1, s.sqt q1', List.getElem?_eq_getElem hl, List.getElem?_eq_getElem hl'⟩
  · exact ⟨vs, ws, s.sqt q1, s.sqt q1', by rw [zips_len, r1.len, r1'.len]; omega⟩
  · obtain ⟨T, x', y', ey, hT, eH, q2, q2'⟩ := q
    obtain ⟨d, ed, rd⟩ := (Rvs.mono s ds r1).get' (q2 vs (s.sqt q1))
    obtain ⟨d', ed', rd'⟩ := (Rvs.mono s es r1').get' (q2' ws (s.sqt q1'))
    obtain ⟨s3, p3, r3⟩ := new_pair p' hT rd rd'
    rw [ey, eH]
    exact ⟨_, zips_get ed ed', s3, p3, r3⟩
/-- from behind: a list -/
theorem walkRL (p : Rep K μ H st) (r : RvR K μ H H0 v a) (e : asLr a st = some ds) : ∃ x vs, v = .ref x ∧ SqL K H x vs ∧ vs.length = ds.length ∧ WalkX K μ H (Itv K x ds.length) ds.reverse (chkOf a ds) := by
  obtain ⟨x, e1, later⟩ := list_later p r e
  obtain ⟨y, vs, e2, q2, r2⟩ := asLr_ok p r e
  rw [e1] at e2; cases e2
  refine ⟨x, vs, e1, q2, r2.len, fun μ' H' st' i s p' c hi => ?_, fun μ' H' st' s p' c => ?_, fun μ' H' st' i y H2 s p' c hi q => ?_⟩
  · rw [List.length_reverse] at hi
    obtain ⟨vs, q, rr⟩ := later μ' H' st' s p' c
    have hl : ds.length - 1 - i < vs.length := by rw [rr.len]; omega
    exact ⟨hi, vs, vs[ds.length - 1 - i], q, List.getElem?_eq_getElem hl⟩
  · rw [List.length_reverse]; exact Nat.le_refl _
  · rw [List.length_reverse] at hi
    obtain ⟨vs, q1, rr⟩ := later μ' H' st' s p' c
    obtain ⟨rfl, q2⟩ := q
    obtain ⟨d, ed, rd⟩ := rr.get' (q2 vs q1)
    exact ⟨d, by rw [List.getElem?_reverse hi]; exact ed, Step.refl, p', rd⟩
theorem walkRT (r : RvR K μ H H0 v (.val (.tup ds))) : ∃ x vs, v = .ref x ∧ SqT K H x vs ∧ vs.length = ds.length ∧ WalkX K μ H (RT.ItvT K x ds.length) ds.reverse (fun _ => True) := by
  obtain ⟨x, vs, e1, q1, r1⟩ := r.tup
  refine ⟨x, vs, e1, q1, r1.len, fun μ' H' st' i s p' c hi => ?_, fun μ' H' st' s p' c => ?_, fun μ' H' st' i y H2 s p' c hi q => ?_⟩
  · rw [List.length_reverse] at hi
    have hl : ds.length - 1 - i < vs.length := by rw [r1.len]; omega
    exact ⟨hi, vs, vs[ds.length - 1 - i], s.sqt q1, List.getElem?_eq_getElem hl⟩
  · rw [List.length_reverse]; exact Nat.le_refl _
  · rw [List.length_reverse] at hi
    obtain ⟨rfl, q2⟩ := q
    obtain ⟨d, ed, rd⟩ := (Rvs.mono s ds r1).get' (q2 vs (s.sqt q1))
    exact ⟨d, by rw [List.getElem?_reverse hi]; exact ed, Step.refl, p', rd⟩
end
/-- the argument of a walk: which way it goes is told by what comes -/
def iEnums (fa : DA) : DI := fun ρ st => (fa ρ st).bind fun rs st1 => match rs with
  | [.val (.tup ds)] => .ok (enums 0 ds, fun _ => True) st1
  | [a] => match asLr a st1 with
    | some ds => .ok (enums 0 ds, chkOf a ds) st1
    | none => .bad
  | _ => .bad
def iZips (fa : DA) : DI := fun ρ st => (fa ρ st).bind fun rs st1 => match rs with
  | [.val (.tup ds), .val (.tup es)] => .ok (zips ds es, fun _ => True) st1
  | [a, b] => match asLr a st1, asLr b st1 with
    | some ds, some es => .ok (zips ds es, fun st => chkOf a ds st ∧ chkOf b es st) st1
    | _, _ => .bad
  | _ => .bad
def iRevs (f : DE) : DI := fun ρ st => (f ρ st).bind fun a st1 => match a with
  | .val (.tup ds) => .ok (ds.reverse, fun _ => True) st1
  | a => match asLr a st1 with
    | some ds => .ok (ds.reverse, chkOf a ds) st1
    | none => .bad
section
variable {X : Cx} {E : XK} {tg a b : Expr} {f1 : DE} {fa : DA} {pos pp tpos : Pos} {elts : List Expr} {kk : Nat}
theorem xi_enum (hg : Gl X "enumerate") (hm : X.mg "enumerate" = none) (ha : PXA X E [a] fa) (hs : starEach [a] X.env = [(false, eval a X.env)] := by rfl) : PXI X E (.Tuple elts kk tpos) (.Call (.Name "enumerate" pp) [a] [] pos) (iEnums fa) := pi_imp (pi_or (pi_enumT hg hm ha hs) (pi_enum hg hm ha hs)) fun σ H R h => by
  obtain ⟨μ, ρ, st, p, e, h⟩ := h
  cases q0 : fa ρ st with
  | bad => unfold iEnums at h; rw [q0] at h; exact h.elim
  | exc c st1 => unfold iEnums at h; rw [q0] at h; exact .inl ⟨μ, ρ, st, p, e, by rw [q0]; exact h⟩
  | ok rs st1 =>
    by_cases z : ∃ ds, rs = [.val (.tup ds)]
    · obtain ⟨ds, z⟩ := z
      subst z
      refine .inl (tg_bind relW_ok p e h fun r1 st1 v μ1 H1 q s1 p1 e1 rr1 h0 h1 => ?_)
      rw [q0] at q; cases q
      obtain ⟨w, ev, r⟩ := rr1.one
      obtain ⟨x, vs, e2, q2, wk⟩ := walkET r
      exact ⟨x, vs, by rw [ev, e2], q2, h1 _ _ _ Step.refl p1 wk⟩
    · refine .inr (tg_bind relW_ok p e h fun r1 st1 v μ1 H1 q s1 p1 e1 rr1 h0 h1 => ?_)
      rw [q0] at q; cases q
      split at h1
      · rename_i ds; exact absurd ⟨ds, rfl⟩ z
      · split at h1
        · rename_i ds q3
          obtain ⟨w, ev, r⟩ := rr1.one
          obtain ⟨x, e2, wk⟩ := walkEL p1 r q3
          obtain ⟨y, vs, e4, q4, _⟩ := asLr_ok p1 r q3
          rw [e2] at e4; cases e4
          exact ⟨x, vs, by rw [ev, e2], q4, h1 _ _ _ Step.refl p1 wk⟩
        · exact h1.elim
      · exact h1.elim
theorem xi_zip (hg : Gl X "zip") (hm : X.mg "zip" = none) (ha : PXA X E [a, b] fa) (hs : starEach [a, b] X.env = (false, eval a X.env) :: starEach [b] X.env := by rfl) (hpl : (backTo pos (starEach [b] X.env)).any (·.1) = false := by rfl) : PXI X E (.Tuple elts kk tpos) (.Call (.Name "zip" pp) [a, b] [] pos) (iZips fa) := pi_imp (RZ.pi_zipA hg hm ha hs hpl) fun σ H R h => by
  obtain ⟨μ, ρ, st, p, e, h⟩ := h
  refine tg_bind relW_ok p e h fun rs st1 vs μ1 H1 q s1 p1 e1 rr1 h0 h1 => ?_
  split at h1
  · obtain ⟨v, w, ev, r, r'⟩ := rr1.two
    obtain ⟨x, y, us, ws, e2, e3, q2, q3, wk⟩ := walkZT r r'
    exact ⟨x, y, us, ws, by rw [ev, e2, e3], .inr ⟨q2, q3, h1 _ _ _ Step.refl p1 wk⟩⟩
  · split at h1
    · rename_i ds es q2 q3
      obtain ⟨v, w, ev, r, r'⟩ := rr1.two
      obtain ⟨x, y, e2, e3, wk⟩ := walkZL p1 r q2 r' q3
      obtain ⟨x', us, e4, q4, _⟩ := asLr_ok p1 r q2
      obtain ⟨y', ws, e5, q5, _⟩ := asLr_ok p1 r' q3
      rw [e2] at e4; cases e4
      rw [e3] at e5; cases e5
      exact ⟨x, y, us, ws, by rw [ev, e2, e3], .inl ⟨q4, q5, h1 _ _ _ Step.refl p1 wk⟩⟩
    · exact h1.elim
  · exact h1.elim
theorem xi_rev (hg : Gl X "reversed") (hm : X.mg "reversed" = none) (ha : PX X E a f1) (hs : starEach [a] X.env = (false, eval a X.env) :: starEach [] X.env := by rfl) : PXI X E tg (.Call (.Name "reversed" pp) [a] [] pos) (iRevs f1) := pi_imp (RT.pi_revA hg hm ha hs) fun σ H R h => by
  obtain ⟨μ, ρ, st, p, e, h⟩ := h
  refine tg_bind relW_ok p e h fun rs st1 vs μ1 H1 q s1 p1 e1 rr1 h0 h1 => ?_
  split at h1
  · obtain ⟨x, us, e2, q2, l2, wk⟩ := walkRT rr1
    exact ⟨x, us, e2, .inr ⟨q2, by rw [l2]; exact h1 _ _ _ Step.refl p1 wk⟩⟩
  · split at h1
    · rename_i ds q2
      obtain ⟨x, us, e2, q3, l2, wk⟩ := walkRL p1 rr1 q2
      exact ⟨x, us, e2, .inl ⟨q3, by rw [l2]; exact h1 _ _ _ Step.refl p1 wk⟩⟩
    · exact h1.elim
end

/-! ### slices -/
abbrev DO := En → Sto → Out (Option Int)
abbrev relO' : List Addr → Hp → Hp → Option Int → Option Int → Prop := fun _ _ _ v r => v = r
theorem relO_ok : RelOk relO' := ⟨fun _ h => h, fun _ h => h⟩
abbrev PXO (X : Cx) (E : XK) (e : Option Expr) (f : DO) : Prop := PO X e (TG' X.K X.mg E relO' f)
theorem po_imp {X : Cx} {e : Option Expr} {t t' : TO} (h : PO X e t) (i : ∀ σ H Q, t' σ H Q → t σ H Q) : PO X e t' := ⟨fun pins s σ H Q I q => h.run pins s σ H Q I (i _ _ _ q)⟩
def oNone : DO := fun _ st => .ok none st
def oSome (f : DE) : DO := fun ρ st => (f ρ st).bind fun a st1 => match a with
  | .val (.int i) => .ok (some i) st1
  | _ => .bad
def cutD (ds : List D) (lo hi : Option Int) : List D := (ds.drop (HT.sIx ds.length 0 lo)).take (HT.sIx ds.length ds.length hi - HT.sIx ds.length 0 lo)
theorem cut_rel {K : PySem.W.Frag} {μ : List Addr} {H : Hp} {vs : List V} {ds : List D} (r : Rvs K μ H vs ds) (lo hi : Option Int) : Rvs K μ H (cutV vs lo hi) (cutD ds lo hi) := by
  unfold cutV cutD
  rw [r.len]
  exact (r.drop _).take _
def gSl (a : R) (lo hi : Option Int) : Sto → Out R := fun st => match a with
  | .val (.tup ds) => .ok (.val (.tup (cutD ds lo hi))) st
  | .val (.str z) => if z.length < 1000000 then .ok (.val (.str (cutS z lo hi))) st else .bad
  | a => match asLr a st with
    | some ds => .ok (.new (.lst (cutD ds lo hi))) st
    | none => .bad
def dSl (f : DE) (lo hi : DO) : DE := fun ρ st => (f ρ st).bind fun a st1 => (lo ρ st1).bind fun l st2 => (hi ρ st2).bind fun h st3 => gSl a l h st3
def rSlAll (K : PySem.W.Frag) : V → Option Int → Option Int → Hp → VK → Prop := fun x lo hi H Q => (rSlL K x lo hi H Q ∨ rSlA K x lo hi H Q) ∨ rSlS x lo hi H Q
theorem sl_all {X : Cx} : SlR X (rSlAll X.K) := (sl_list.or sl_tupA).or sl_str
section
variable {X : Cx} {E : XK} {a : Expr} {f1 : DE} {lo hi : Option Expr} {fl fh : DO} {pos p2 : Pos}
theorem xo_none : PXO X E none oNone := po_imp po_none fun σ H Q h => by
  obtain ⟨μ, ρ, st, p, e, h⟩ := h
  exact h none μ H Step.refl p rfl
theorem xo_some (h : PX X E a f1) : PXO X E (some a) (oSome f1) := po_imp (po_some h) fun σ H Q h => by
  obtain ⟨μ, ρ, st, p, e, h⟩ := h
  refine tg_bind relO_ok p e h fun r1 st1 v μ1 H1 q s1 p1 e1 rr1 h0 h1 => ?_
  split at h1
  · exact ⟨_, rr1.int, h1 _ μ1 H1 Step.refl p1 rfl⟩
  · exact h1.elim
theorem x_slice (he : PX X E a f1) (hl : PXO X E lo fl) (hu : PXO X E hi fh) : PX X E (.Subscript a (.Slice lo hi none p2) pos) (dSl f1 fl fh) := pe_imp (pe_slice sl_all he hl hu) fun σ H Q h => by
  obtain ⟨μ, ρ, st, p, e, h⟩ := h
  refine tg_bind relR_ok p e h fun r1 st1 v μ1 H1 q s1 p1 e1 rr1 h0 h1 => ?_
  refine tg_bind relR_ok p1 e1 h1 fun l st2 l' μ2 H2 q2 s2 p2 e2 rr2 h0' h2 => ?_
  refine tg_bind relR_ok p2 e2 h2 fun u st3 u' μ3 H3 q3 s3 p3 e3 rr3 h0'' h3 => ?_
  cases (show l' = l from rr2)
  cases (show u' = u from rr3)
  have rr := rr1.mono (s2.trans s3)
  unfold gSl at h3
  split at h3
  · obtain ⟨x, vs, e4, q4, r4⟩ := rr.tup
    refine .inl (.inr ⟨x, vs, e4, q4, fun hw => ?_, fun _ t ht => Fin.tup h3 p3 ht (cut_rel r4 _ _)⟩)
    rename_i ds
    have ec : cutD ds l u = ds := by
      unfold cutD
      rw [r4.len] at hw
      rw [hw.1, hw.2]
      simp
    rw [ec] at h3
    rw [e4] at rr
    exact Fin.val h3 p3 rr
  · split at h3
    · rename_i hz
      exact .inr ⟨_, rr.str, big_le hz, Fin.val h3 p3 Rv.str'⟩
    · exact h3.elim
  · split at h3
    · rename_i ds q5
      obtain ⟨x, vs, e4, q4, r4⟩ := asLr_ok p3 rr q5
      exact .inl (.inl ⟨x, vs, e4, q4, fun t ht => Fin.new h3 p3 ht ⟨_, upd_same, Rvs.mono (Step.new ht) _ (cut_rel r4 _ _)⟩⟩)
    · exact h3.elim
end

/-! ### methods of built-in types -/
abbrev GM := R → List R → Sto → Out R
def MtOk (K : PySem.W.Frag) (mg : Str → Option Value) (E : XK) (r : V → List V → Hp → VK → Prop) (g : GM) : Prop :=
  ∀ μ0 H0 μ H st x a vs rs Q, Step μ0 H0 μ H → Rep K μ H st → RvR K μ H H0 x a → RvRs K μ H H0 vs rs → FinG K mg E (relR K) μ0 H0 (g a rs st) Q → r x vs H Q
def dBM (T : Ty) (g : GM) (fo : DE) (fa : DA) : DE := fun ρ st => (fo ρ st).bind fun a st1 => if tyOf a st1 = some T then (fa ρ st1).bind fun rs st2 => g a rs st2 else .bad
theorem tyV_of {K : PySem.W.Frag} {μ : List Addr} {H H0 : Hp} {st : Sto} {v : V} {a : R} {T : Ty} (hT : T = .lst ∨ T = .dic ∨ T = .str) (p : Rep K μ H st) (r : RvR K μ H H0 v a) (e : tyOf a st = some T) : tyV K T.name v H := by
  have hL : ∀ ds, asLr a st = some ds → tyV K "list" v H := fun ds q => by
    obtain ⟨u, us, e1, q1, r1⟩ := asLr_ok p r q
    rw [e1]; exact .inl ⟨rfl, us, q1⟩
  have hK : ∀ ds, asDk a st = some ds → tyV K "dict" v H := fun ds q => by
    obtain ⟨u, us, e1, q1, r1⟩ := asDk_ok p r q
    rw [e1]; exact .inr (.inr (.inl ⟨rfl, .inl ⟨us, q1⟩⟩))
  have hT' : ∀ ds, asDt a st = some ds → tyV K "dict" v H := fun ds q => by
    obtain ⟨u, us, e1, q1, r1⟩ := asDt_ok p r q
    rw [e1]; exact .inr (.inr (.inl ⟨rfl, .inr ⟨us, q1⟩⟩))
  unfold tyOf at e
  split at e
  · cases e; simp at hT
  · cases e; simp at hT
  · cases e; simp at hT
  · cases e; rw [r.str]; rfl
  · cases e; simp at hT
  · cases e; simp at hT
  · cases e; exact hL _ rfl
  · cases e
  · split at e
    · rename_i ds q; cases e; exact hL ds (by simp only [asLr, asL, q])
    · rename_i ds q; cases e; exact hK ds (by simp only [asDk, q])
    · rename_i ds q; cases e; exact hT' ds (by simp only [asDt, q])
    · cases e
  · cases e; exact hL _ rfl
  · cases e; exact hK _ rfl
  · cases e; exact hT' _ rfl
section
variable {K : PySem.W.Frag} {mg : Str → Option Value} {E : XK}
theorem tg_bm {T : Ty} {g : GM} {fo : DE} {fa : DA} {r : V → List V → Hp → VK → Prop} (hT : T = .lst ∨ T = .dic ∨ T = .str) (hg : MtOk K mg E r g) (σ : L2.St) (H : Hp) (Q : VK) (h : TX K mg E (dBM T g fo fa) σ H Q) : tBM K T.name r (TX K mg E fo) (TXA K mg E fa) σ H Q := by
  obtain ⟨μ, ρ, st, p, e, h⟩ := h
  refine tg_bind relR_ok p e h fun a st1 v μ1 H1 q s1 p1 e1 rr1 h0 h1 => ?_
  split at h1
  · rename_i ht
    rw [if_pos ht] at h0
    refine ⟨tyV_of hT p1 rr1 ht, tg_bind relR_ok p1 e1 h1 fun rs st2 vs μ2 H2 q2 s2 p2 e2 rr2 h0' h2 => ?_⟩
    have z : FinG K mg E (relR K) μ H (g a rs st2) Q := by
      rw [show ((fa ρ st1).bind fun rs st2 => g a rs st2) = g a rs st2 by rw [q2]; rfl] at h0
      exact h0
    exact hg μ H μ2 H2 st2 v a vs rs Q (s1.trans s2) p2 (rr1.mono s2) (rr2.back s1) z
  · exact h1.elim
theorem tg_bm0 {T : Ty} {g : GM} {fo : DE} {r : V → List V → Hp → VK → Prop} (hT : T = .lst ∨ T = .dic ∨ T = .str) (hg : MtOk K mg E r g) (σ : L2.St) (H : Hp) (Q : VK) (h : TX K mg E (dBM T g fo aNil) σ H Q) : tBM0 K T.name r (TX K mg E fo) σ H Q := by
  obtain ⟨μ, ρ, st, p, e, h⟩ := h
  refine tg_bind relR_ok p e h fun a st1 v μ1 H1 q s1 p1 e1 rr1 h0 h1 => ?_
  split at h1
  · rename_i ht
    rw [if_pos ht] at h0
    exact ⟨tyV_of hT p1 rr1 ht, hg μ H μ1 H1 st1 v a [] [] Q s1 p1 rr1 True.intro h0⟩
  · exact h1.elim
def gAppend : GM := fun a rs st => match a, rs with
  | .val (.loc n), [r] => match (toD r st).2[n]? with
    | some (.lst ds) => if ds.length < 1000000 then .ok (.val .non) ((toD r st).2.set n (.lst (ds ++ [(toD r st).1]))) else .bad
    | _ => .bad
  | _, _ => .bad
theorem toD_okR {Q : VK} {μ μ1 : List Addr} {H H1 : Hp} {st1 : Sto} {v : V} {r : R} {out : Out R} (s1 : Step μ H μ1 H1) (p1 : Rep K μ1 H1 st1) (rr : RvR K μ1 H1 H v r) (h : FinG K mg E (relR K) μ H out Q) :
    ∃ μ2, Step μ H μ2 H1 ∧ Ext μ1 H1 μ2 H1 ∧ Rep K μ2 H1 (toD r st1).2 ∧ Rv K μ2 H1 v (toD r st1).1 ∧ FinG K mg E (relR K) μ2 H1 out Q := by
  cases r with
  | val d => exact ⟨μ1, s1, Step.refl.ext, p1, rr, FinG.later relR_ok s1 h⟩
  | new o =>
    obtain ⟨a, e, f, n, q⟩ := rr
    have s2 := s1.add f
    refine ⟨μ1 ++ [a], s2, Ext.add, p1.add n q, ?_, FinG.later relR_ok s2 h⟩
    unfold toD Rv
    exact ⟨a, e, by rw [← p1.len, List.getElem?_append_right (Nat.le_refl _)]; simp⟩
theorem append_ok : MtOk K mg E rAppend gAppend := by
  intro μ0 H0 μ H st x a vs rs Q s p ra rrs f
  unfold gAppend at f
  split at f
  · rename_i n r
    obtain ⟨v, ev, rv⟩ := rrs.one
    obtain ⟨μ2, s2, x2, p2, r2, h2⟩ := toD_okR s p rv f
    split at h2
    · rename_i ds es
      split at h2
      · rename_i hl
        obtain ⟨l, el, gl⟩ := ra.loc
        have gl2 := x2.get _ _ gl
        obtain ⟨y, ey, ws, ew, rw'⟩ := p2.obj n _ es
        rw [gl2] at ey; cases ey
        have s5 := Step.put (o := .lst (ws ++ [v])) ew (List.mem_of_getElem? gl2) (fun _ z => by cases z) (fun _ _ z => by cases z)
        refine ⟨l, ws, v, el, ev, ew, big_lt (by rw [rw'.len]; exact hl), ?_⟩
        exact h2 .non μ2 _ s5 (p2.put gl2 ew (fun _ z => by cases z) (fun _ _ z => by cases z) ⟨_, upd_same, (Rvs.mono s5 _ rw').append (Rvs.one (Rv.mono s5 _ r2))⟩) (show Rv K μ2 (upd H l (.lst (ws ++ [v]))) .non .non from Rv.non')
      · exact h2.elim
    · exact h2.elim
  · exact f.elim
def gExtend : GM := fun a rs st => match a, rs with
  | .val (.loc n), [r] => match st[n]?, asL r st with
    | some (.lst ds), some es => if ds.length + es.length < 1000000 then .ok (.val .non) (st.set n (.lst (ds ++ es))) else .bad
    | _, _ => .bad
  | _, _ => .bad
theorem extend_ok : MtOk K mg E rExtend gExtend := by
  intro μ0 H0 μ H st x a vs rs Q s p ra rrs f
  replace f := FinG.later relR_ok s f
  unfold gExtend at f
  split at f
  · rename_i n r
    obtain ⟨v, ev, rv⟩ := rrs.one
    split at f
    · rename_i ds es es1 es2
      split at f
      · rename_i hl
        obtain ⟨l, el, gl⟩ := ra.loc
        obtain ⟨y, ey, ws, ew, rw'⟩ := p.obj n _ es1
        rw [gl] at ey; cases ey
        obtain ⟨b, us, eb, qb, rb⟩ := asL_ok p rv es2
        have s5 := Step.put (o := .lst (ws ++ us)) ew (List.mem_of_getElem? gl) (fun _ z => by cases z) (fun _ _ z => by cases z)
        refine ⟨l, b, ws, us, el, by rw [ev, eb], ew, qb, big_le (by rw [rw'.len, rb.len]; exact hl), ?_⟩
        exact f .non μ _ s5 (p.put gl ew (fun _ z => by cases z) (fun _ _ z => by cases z) ⟨_, upd_same, (Rvs.mono s5 _ rw').append (Rvs.mono s5 _ rb)⟩) (show Rv K μ (upd H l (.lst (ws ++ us))) .non .non from Rv.non')
      · exact f.elim
    · exact f.elim
  · exact f.elim
end
end MM
namespace MM
open PySem PySem.Spec PyProof.Rows L2
/-! ### small things -/
def gNotB : R → Sto → Out R := fun a st => (gB a st).bind fun b st => .ok (.val (.bl (!b))) st
def sBad : DS := fun _ _ => .bad
section
variable {X : Cx} {E : XK} {a b c : Expr} {f1 f2 f3 : DE} {fa : DA} {pos pp : Pos}
theorem x_notB (ha : PX X E a f1) : PX X E (.UnaryOp .Not a pos) (dUn gNotB f1) := x_not ha
theorem xs_bad {s : Stmt} : PXS X E s sBad := ps_imp ps_never fun D σ H h => by
  obtain ⟨μ, ρ, st, p, e, h⟩ := h
  exact h.elim
theorem xt_chain {op op' : CmpOp} {r r' : R2} {g g' : G2} (ho : OpR X (compareOp op) r) (hg : Keeps X.K X.mg E r g) (hn : ∀ a b st, (∃ k, g a b st = .ok (.val (.bl k)) st) ∨ g a b st = .bad) (ho' : OpR X (compareOp op') r') (hg' : OpOk X.K X.mg E r' g') (ha : PX X E a f1) (hb : PX X E b f2) (hc : PX X E c f3)
    (hm : lastMarks [op, op'] [b, c] = false) : PXT X E (.Compare a [op, op'] [b, c] pos) (tOfB (dChain g g' f1 f2 f3)) := pt_imp (pt_chain ho ho' ha hb hc hm) fun σ H Q h => by
  obtain ⟨μ, ρ, st, p, e, h⟩ := h
  have h' := tg_tofb (K := X.K) (mg := X.mg) (E := E) (f := dChain g g' f1 f2 f3) σ H Q ⟨μ, ρ, st, p, e, h⟩
  obtain ⟨μ, ρ, st, p, e, h⟩ := h'
  refine tg_bind relR_ok p e h (fun r1 st1 v μ1 H1 q s1 p1 e1 rr1 h0 h1 => ?_)
  refine tg_bind relR_ok p1 e1 h1 (fun r2 st2 v2 μ2 H2 q2 s2 p2 e2 rr2 h0' h2 => ?_)
  rcases hn r1 r2 st2 with ⟨k, ek⟩ | eb
  · rw [ek] at h2
    refine hg μ2 H2 H st2 v v2 r1 r2 _ p2 (rr1.mono s2) (rr2.back s1) ⟨k, ek, k, rfl, ?_⟩
    cases k with
    | false => exact Fin.val h2 p2 Rv.bl'
    | true =>
      show TX X.K X.mg E f3 σ H2 _
      refine tg_bind relR_ok p2 e2 h2 (fun r3 st3 v3 μ3 H3 q3 s3 p3 e3 rr3 h0'' h3 => ?_)
      exact hg' μ3 H3 H1 st3 v2 v3 r2 r3 _ p3 (rr2.mono s3) (rr3.back s2) h3
  · rw [eb] at h2
    exact h2.elim
/-! list(range(n)) -/
def dListRange (fa : DA) : DE := fun ρ st => (fa ρ st).bind fun rs st1 => match rs with
  | [.val (.int n)] => if 0 ≤ n ∧ n < 1000000 then .ok (.new (.lst (ups 0 n.toNat))) st1 else .bad
  | _ => .bad
theorem Rvs.ups {K : PySem.W.Frag} {μ : List Addr} {H : Hp} (lo : Int) (n : Nat) : Rvs K μ H ((List.range n).map fun i => V.int (lo + (i : Nat))) (ups lo n) := by
  refine Rvs.of (by simp [MM.ups]) fun i v d e1 e2 => ?_
  unfold MM.ups at e2
  rw [List.getElem?_map] at e1 e2
  cases h : (List.range n)[i]? with
  | none => rw [h] at e1; cases e1
  | some j => rw [h] at e1 e2; cases e1; cases e2; exact Rv.int'
theorem x_listRange {p2 pos2 : Pos} (hc : X.calm = true) (hg : Gl X "list") (hm : X.mg "list" = none) (hg2 : Gl X "range") (hm2 : X.mg "range" = none) (ha : PX X E a f1)
    (na : starEach [a] X.env = (false, eval a X.env) :: starEach [] X.env := by rfl) (na2 : starEach [Expr.Call (.Name "range" p2) [a] [] pos2] X.env = (false, eval (Expr.Call (.Name "range" p2) [a] [] pos2) X.env) :: starEach [] X.env := by rfl) :
    PX X E (.Call (.Name "list" pp) [.Call (.Name "range" p2) [a] [] pos2] [] pos) (dListRange (aCons f1 aNil)) := pe_imp (pe_listRg hc hg hm (prg_1 hg2 hm2 ha na) na2) fun σ H Q h => by
  obtain ⟨μ, ρ, st, p, e, h⟩ := h
  unfold dListRange aCons at h
  refine tg_bind (g := fun r st1 => (Out.bind (aNil ρ st1) fun rs st2 => Out.ok (r :: rs) st2).bind fun rs st1 => match rs with
    | [.val (.int n)] => if 0 ≤ n ∧ n < 1000000 then .ok (.new (.lst (ups 0 n.toNat))) st1 else .bad
    | _ => .bad) relR_ok p e (by
      cases q : f1 ρ st with
      | ok r st1 => rw [q] at h; exact h
      | exc c st1 => rw [q] at h; exact h
      | bad => rw [q] at h; exact h) fun r1 st1 v μ1 H1 q s1 p1 e1 rr1 h0 h1 => ?_
  simp only [aNil, Out.bind_ok] at h1
  split at h1
  · rename_i n es
    cases es
    split at h1
    · rename_i hn
      refine ⟨n, rr1.int, RgOk.of_le (by omega) (by omega) (by omega) (by omega), fun t ht => ?_⟩
      refine Fin.new h1 p1 ht ⟨_, upd_same, ?_⟩
      unfold rgV
      rw [show (n - 0).toNat = n.toNat by rw [Int.sub_zero]]
      exact Rvs.ups 0 n.toNat
    · exact h1.elim
  · exact h1.elim
/-! range(a, b, c) -/
def iRange3 (fa : DA) : DI := fun ρ st => (fa ρ st).bind fun rs st1 => match rs with
  | [.val (.int i), .val (.int j), .val (.int c)] =>
    if Builtin.Range.small i j c = true ∧ c ≠ 0 ∧ c.natAbs < 1073741824 ∧ 0 ≤ Builtin.Range.rangeSize i j c then .ok ((List.range (Builtin.Range.rangeSize i j c).toNat).map fun k => .int (i + (k : Nat) * c), fun _ => True) st1 else .bad
  | _ => .bad
theorem xi_range3 {tg : Expr} (hg : Gl X "range") (hm : X.mg "range" = none) (ha : PXA X E [a, b, c] fa) (hs : starEach [a, b, c] X.env = (false, eval a X.env) :: starEach [b, c] X.env := by rfl) (hpl : (backTo pos (starEach [b, c] X.env)).any (·.1) = false := by rfl) : PXI X E tg (.Call (.Name "range" pp) [a, b, c] [] pos) (iRange3 fa) := pi_imp (pi_range3 hg hm ha hs hpl) fun σ H R h => by
  obtain ⟨μ, ρ, st, p, e, h⟩ := h
  refine tg_bind relW_ok p e h fun rs st1 vs μ1 H1 q s1 p1 e1 rr1 h0 h1 => ?_
  split at h1
  · rename_i i j c
    split at h1
    · rename_i hh
      obtain ⟨v, w, u, ev, r, r', r''⟩ := rr1.three
      refine ⟨i, j, c, _, by rw [ev, r.int, r'.int, r''.int], ⟨hh.2.1, hh.2.2.1, hh.1, (Int.toNat_of_nonneg hh.2.2.2).symm⟩, h1 _ _ _ Step.refl p1 ?_⟩
      refine ⟨fun μ' H' st' i s p' c hi => by rw [List.length_map, List.length_range] at hi; exact hi, fun μ' H' st' s p' c => by rw [List.length_map, List.length_range]; exact Nat.le_refl _, fun μ' H' st' k y H2 s p' _ hi q => ?_⟩
      rw [List.length_map, List.length_range] at hi
      obtain ⟨rfl, e⟩ := q
      exact ⟨.int (i + (k : Nat) * c), by rw [List.getElem?_map, List.getElem?_range hi]; rfl, Step.refl, p', by rw [e]; exact Rv.int'⟩
    · exact h1.elim
  · exact h1.elim
end
/-! ### lengths of argument lists -/
def ALen (fa : DA) (n : Nat) : Prop := ∀ ρ st rs st1, fa ρ st = .ok rs st1 → rs.length = n
theorem alen_nil : ALen aNil 0 := fun ρ st rs st1 h => by unfold aNil at h; cases h; rfl
theorem alen_cons {f : DE} {fa : DA} {n : Nat} (h : ALen fa n) : ALen (aCons f fa) (n + 1) := fun ρ st rs st1 e => by
  unfold aCons at e
  cases q : f ρ st with
  | bad => rw [q] at e; cases e
  | exc c s => rw [q] at e; cases e
  | ok r s1 =>
    rw [q] at e
    simp only [Out.bind_ok] at e
    cases q2 : fa ρ s1 with
    | bad => rw [q2] at e; cases e
    | exc c s => rw [q2] at e; cases e
    | ok rs' s2 =>
      rw [q2] at e
      cases e
      exact congrArg (· + 1) (h _ _ _ _ q2)
/-! ### a def that nothing is said of -/
theorem fn_bad {P : Program} {w : World} {K : PySem.W.Frag} {mg : Str → Option Value} {base : Heap} {k : Nat} {f : Addr} {fd : FuncData} {ps : List Str} {n : Nat} (h : n = ps.length := by rfl) : FnOk P w K mg base CX0 k f fd ps (fun vs H Q E => spF K mg n (fun _ _ => .bad) vs H Q E0) :=
  ⟨fun vs H Q E z => by rw [← h]; exact z.1, fun A outer s H args us vs Q E _ _ _ _ z => by
    obtain ⟨_, μ, st, ds, _, _, z⟩ := z
    exact z.elim⟩
/-! ### what the module's names hold: written tuples -/
def AlwaysL (K : PySem.W.Frag) : List V → List D → Prop
  | [], [] => True
  | v :: vs, d :: ds => Always K v d ∧ AlwaysL K vs ds
  | _, _ => False
theorem alws_nil {K} : AlwaysL K [] [] := True.intro
theorem alws_cons {K v d vs ds} (h : Always K v d) (t : AlwaysL K vs ds) : AlwaysL K (v :: vs) (d :: ds) := ⟨h, t⟩
theorem AlwaysL.rvs {K : PySem.W.Frag} {μ : List Addr} {H : Hp} : ∀ {vs : List V} {ds : List D}, AlwaysL K vs ds → Rvs K μ H vs ds
  | [], [], _ => Rvs.nil
  | v :: vs, d :: ds, h => Rvs.cons (h.1 μ H) (AlwaysL.rvs h.2)
  | [], _ :: _, h => h.elim
  | _ :: _, [], h => h.elim
theorem always_tup {K : PySem.W.Frag} {a : Addr} {od : Option Addr} {its : Array Value} {n : Nat} {sl : Array (Option Value)} {vs : List V} {ds : List D} (l : K.lookup a = some ⟨.type "tuple", od, .seq its n, sl⟩) (r : Vals vs its.toList) (al : AlwaysL K vs ds) (hz : its.size ≤ sizeLine) : Always K (.ref a) (.kt ds) := fun μ H => by
  unfold Rv
  exact ⟨a, vs, rfl, .inr ⟨_, its, n, l, rfl, rfl, hz, r⟩, al.rvs⟩
/-! ### the law's end -/
theorem ro_of {K : PySem.W.Frag} {H : Hp} {a : Addr} {xs : List V} (o : Only H) (h : SqL K H a xs) : RoAt K H a xs := by
  rcases h with (h | ⟨u, h⟩) | h
  · rcases o a with z | ⟨u, ys, z⟩
    · rw [z] at h; cases h
    · rw [z] at h; cases h
  · exact .inl ⟨u, h⟩
  · exact .inr h
theorem law_end {K : PySem.W.Frag} {mg : Str → Option Value} {F : FD} {n : Nat} (h : ∀ ns : List Int, ns.length ≤ n → ∃ st, F [.rol (ns.map D.int)] [] = .ok (.val (.bl true)) st) (H : Hp) (a : Addr) (ns : List Int) (hl : ns.length ≤ n) (o : Only H) (hS : SqL K H a (ns.map V.int)) :
    spF K mg 1 F [.ref a] H (fun v _ => v = .bl true) E0 := by
  refine ⟨rfl, [], [], [.rol (ns.map D.int)], ⟨rfl, fun i o e => by simp at e, fun i j x e => by simp at e⟩, Rvs.one ?_, ?_⟩
  · unfold Rv
    exact ⟨a, _, rfl, ro_of o hS, Rvs.intsR ns⟩
  · obtain ⟨st, e⟩ := h ns hl
    rw [e]
    exact fun v μ' H' s p r => r.bl
end MM
namespace MM
open PySem PySem.Spec PyProof.Rows L2
/-! ### dicts: keys -/
def keyD : D → Option Key
  | .int i => some (.inl i)
  | .str x => some (.inr x)
  | _ => none
def keysD : List D → Option (List Key)
  | [] => some []
  | d :: ds => match keyD d, keysD ds with
    | some k, some ks => some (k :: ks)
    | _, _ => none
def getK {κ : Type} [DecidableEq κ] (kvs : List (κ × D)) (k : κ) : Option D := (kvs.find? fun kv => decide (kv.1 = k)).map (·.2)
def setK {κ : Type} [DecidableEq κ] (kvs : List (κ × D)) (k : κ) (d : D) : List (κ × D) :=
  if (kvs.any fun kv => decide (kv.1 = k)) = true then kvs.map (fun kv => if kv.1 = k then (kv.1, d) else kv) else kvs ++ [(k, d)]
section
variable {K : PySem.W.Frag} {mg : Str → Option Value} {E : XK} {μ μ' : List Addr} {H H' H0 : Hp} {st : Sto} {v : V} {a b : R}
theorem keyD_ok {d : D} {k : Key} (r : Rv K μ H v d) (e : keyD d = some k) : v = kV k := by
  cases d <;> simp [keyD] at e
  · subst e; unfold Rv at r; exact r
  · subst e; unfold Rv at r; exact r
theorem keysD_ok : ∀ {ds : List D} {vs : List V} {ks : List Key}, Rvs K μ H vs ds → keysD ds = some ks → vs = ks.map kV
  | [], vs, ks, r, e => by unfold Rvs at r; unfold keysD at e; cases e; exact r
  | d :: ds, vs, ks, r, e => by
    unfold Rvs at r
    unfold keysD at e
    obtain ⟨v, vr, e1, r1, r2⟩ := r
    split at e
    · rename_i k ks' h1 h2
      cases e
      rw [e1, keyD_ok r1 h1, keysD_ok r2 h2]
      rfl
    · cases e
theorem Rkv.get {κ : Type} [DecidableEq κ] {k : κ} : ∀ {ks : List (κ × V)} {kvs : List (κ × D)}, Rkv K μ H ks kvs → (∀ d, getK kvs k = some d → ∃ v, valV ks k = some v ∧ Rv K μ H v d) ∧ (getK kvs k = none → valV ks k = none)
  | [], [], .nil => ⟨fun d e => by simp [getK] at e, fun _ => rfl⟩
  | p :: ks, q :: kvs, .cons r t => by
    obtain ⟨h1, h2⟩ := Rkv.get (k := k) t
    by_cases e : p.1 = k
    · have e' : q.1 = k := by rw [← r.1]; exact e
      rw [valV_pos e]
      have g : getK (q :: kvs) k = some q.2 := by simp [getK, List.find?_cons, e']
      rw [g]
      exact ⟨fun d ed => by cases ed; exact ⟨_, rfl, r.2⟩, fun z => by cases z⟩
    · have e' : ¬ q.1 = k := by rw [← r.1]; exact e
      rw [valV_neg e]
      have g : getK (q :: kvs) k = getK kvs k := by simp [getK, List.find?_cons, e']
      rw [g]
      exact ⟨h1, h2⟩
theorem Rkv.any {κ : Type} [DecidableEq κ] {k : κ} : ∀ {ks : List (κ × V)} {kvs : List (κ × D)}, Rkv K μ H ks kvs → (ks.any fun kv => decide (kv.1 = k)) = (kvs.any fun kv => decide (kv.1 = k))
  | [], [], .nil => rfl
  | p :: ks, q :: kvs, .cons r t => by
    rw [List.any_cons, List.any_cons, Rkv.any t, r.1]
theorem Rkv.map {κ : Type} [DecidableEq κ] {k : κ} {d : D} (rv : Rv K μ H v d) : ∀ {ks : List (κ × V)} {kvs : List (κ × D)}, Rkv K μ H ks kvs → Rkv K μ H (ks.map fun kv => if kv.1 = k then (kv.1, v) else kv) (kvs.map fun kv => if kv.1 = k then (kv.1, d) else kv)
  | [], [], .nil => .nil
  | p :: ks, q :: kvs, .cons r t => by
    rw [List.map_cons, List.map_cons]
    refine .cons ?_ (Rkv.map rv t)
    by_cases e : p.1 = k
    · have e' : q.1 = k := by rw [← r.1]; exact e
      rw [if_pos e, if_pos e']
      exact ⟨r.1, rv⟩
    · have e' : ¬ q.1 = k := by rw [← r.1]; exact e
      rw [if_neg e, if_neg e']
      exact r
theorem Rkv.put {κ : Type} [DecidableEq κ] {k : κ} {d : D} (rv : Rv K μ H v d) {ks : List (κ × V)} {kvs : List (κ × D)} (r : Rkv K μ H ks kvs) : Rkv K μ H (putK ks k v) (setK kvs k d) := by
  unfold putK setK
  rw [← r.any]
  split
  · exact r.map rv
  · exact Paired.snoc r ⟨rfl, rv⟩
/-! d[k] -/
def gDix : G2 := fun a b st => match asDk a st, b with
  | some kvs, .val d => match keyD d with
    | some k => match getK kvs k with
      | some e => .ok (.val e) st
      | none => .bad
    | none => .bad
  | some _, _ => .bad
  | none, b => match asDt a st, b with
    | some kvs, .val (.tup ds) => match keysD ds with
      | some k => match getK kvs k with
        | some e => .ok (.val e) st
        | none => .bad
      | none => .bad
    | some _, _ => .bad
    | none, b => gIx a b st
def rDix (K : PySem.W.Frag) : R2 := fun x y H Q => rIx K x y H Q ∨ ∃ a v, x = .ref a ∧ DGet H a y (some v) ∧ Q v H
theorem ix_dict {X : Cx} (hu : X.A.units + 1 < cLine) : IxR X (fun x y H Q => ∃ a v, x = .ref a ∧ DGet H a y (some v) ∧ Q v H) := by
  intro value slice pins s σ H x y v u Q I rx ry h hs
  obtain ⟨a, w, rfl, g, q⟩ := h
  cases rx
  have hT := dict_typeIs I g
  unfold subscriptTail
  refine wpAny_bind ?_
  rw [getitemInPython_of_ne hT.not_modules]
  refine wpAny_bind (wpAny_specialOf hT PySem.F.slot_dict_getitem.lookup ?_)
  have fin : wpAny (model X.prog X.w) X.A (subscripted slice false (.ref a) u) (fun r s₃ => wpAny (model X.prog X.w) X.A (letTemporaryGo value (.ref a) r >>= fun _ => pure r) (EP X pins σ Q) X.xe s₃) X.xe s := by
    rw [hs]
    exact wpAny_operating (d_getItem hu I g ry fun w' s3 I3 rw' => wpAny_bind (wpAny_letTemporaryGo (wpAny_pure ⟨w, H, I3, rw', q⟩)))
  first
    | exact wpAny_pure (wpAny_bind fin)
    | exact wpAny_bind (wpAny_pure (wpAny_bind fin))
    | exact wpAny_bind fin
theorem ix_all {X : Cx} (hu : X.A.units + 1 < cLine) : IxR X (rDix X.K) := ix_seq.or (ix_dict hu)
theorem dix_ok {K mg E} : OpOk K mg E (rDix K) gDix := by
  intro μ H H0 st x y a b Q p ra rb f
  unfold gDix at f
  split at f
  · rename_i kvs d e
    split at f
    · rename_i k ek
      split at f
      · rename_i e' g
        obtain ⟨u, ks, e1, q1, r1⟩ := asDk_ok p ra e
        obtain ⟨v, q2, r2⟩ := r1.get.1 _ g
        exact .inr ⟨u, v, e1, .inl ⟨ks, k, .inl q1, keyD_ok rb ek, q2.symm⟩, Fin.val f p r2⟩
      · exact f.elim
    · exact f.elim
  · exact f.elim
  · split at f
    · rename_i kvs ds e
      split at f
      · rename_i k ek
        split at f
        · rename_i e' g
          obtain ⟨u, ks, e1, q1, r1⟩ := asDt_ok p ra e
          obtain ⟨v, q2, r2⟩ := r1.get.1 _ g
          obtain ⟨b', vs, e2, q3, r3⟩ := rb.tupH
          exact .inr ⟨u, v, e1, .inr ⟨ks, k, b', .inl q1, e2, by rw [q3, keysD_ok r3 ek], q2.symm⟩, Fin.val f p r2⟩
        · exact f.elim
      · exact f.elim
    · exact f.elim
    · exact .inl (ix_ok μ H H0 st x y a _ Q p ra rb f)
/-! d[k] = v, xs[i] = v -/
def sPut (fv fo fi : DE) : DS := fun ρ st => SO.of ρ (fv ρ st) fun r st1 => SO.of ρ (fo ρ (toD r st1).2) fun o st2 => SO.of ρ (fi ρ st2) fun i st3 => match o, i with
  | .val (.loc n), .val d => match st3[n]? with
    | some (.lst ds) => match d with
      | .int k => match ixN ds.length k with
        | some j => .nx ρ (st3.set n (.lst (ds.set j (toD r st1).1)))
        | none => .bad
      | _ => .bad
    | some (.dk kvs) => match keyD d with
      | some k => if kvs.length < 1000000 then .nx ρ (st3.set n (.dk (setK kvs k (toD r st1).1))) else .bad
      | none => .bad
    | some (.dt kvs) => match d with
      | .tup ds => match keysD ds with
        | some k => if kvs.length < 1000000 then .nx ρ (st3.set n (.dt (setK kvs k (toD r st1).1))) else .bad
        | none => .bad
      | _ => .bad
    | _ => .bad
  | _, _ => .bad
def rSetAll : TSet := fun o i v H Q => rSetL o i v H Q ∨ rSetD o i v H Q
theorem set_all {X : Cx} (hu : X.A.units + 1 < cLine) : PSet X rSetAll := by
  intro pins s σ H o i v ov iv u Q I ro ri rv h
  rcases h with h | h
  · exact set_list pins s σ H o i v ov iv u Q I ro ri rv h
  · exact set_dict hu pins s σ H o i v ov iv u Q I ro ri rv h
variable {f1 f2 f3 : DE}
theorem tg_put (D : Ends) (σ : L2.St) (H : Hp) (h : TXS K mg E (sPut f1 f2 f3) D σ H) : tAsg (TX K mg E f1) (L2.gSub (TX K mg E f2) (TX K mg E f3) rSetAll) D σ H := by
  obtain ⟨μ, ρ, st, p, e, h⟩ := h
  refine ts_bind p e h fun r1 st1 v μ1 H1 q s1 p1 e1 rr1 h0 h1 => ?_
  obtain ⟨μ2, s2, x2, p2, r2, h2⟩ := toD_ok s1 p1 rr1 h0
  refine ts_bind p2 (e1.ext x2) h2 fun o st2 w μ3 H3 q3 s3 p3 e3 rr3 h3 h4 => ?_
  refine ts_bind p3 e3 h4 fun i st4 u μ4 H4 q4 s4 p4 e4 rr4 h5 h6 => ?_
  split at h6
  · rename_i n d
    obtain ⟨x, ex, gx⟩ := (rr3.mono s4).loc
    have rw' := Rv.mono (s3.trans s4) _ r2
    split at h6
    · rename_i ds es
      split at h6
      · rename_i k
        split at h6
        · rename_i j ej
          obtain ⟨y, ey, vs, ev, rv⟩ := p4.obj n _ es
          rw [gx] at ey; cases ey
          have s5 := Step.put (o := .lst (vs.set j v)) ev (List.mem_of_getElem? gx) (fun _ z => by cases z) (fun _ _ z => by cases z)
          refine .inl ⟨x, vs, k, j, ex, rr4.int, ev, by rw [rv.len]; exact ej, ?_⟩
          refine h6 σ μ4 _ s5 (p4.put gx ev (fun _ z => by cases z) (fun _ _ z => by cases z) ⟨_, upd_same, (Rvs.mono s5 _ rv).set j (Rv.mono s5 _ rw')⟩) (e4.mono s5)
        · exact h6.elim
      · exact h6.elim
    · rename_i kvs es
      split at h6
      · rename_i k ek
        split at h6
        · rename_i hl
          obtain ⟨y, ey, ks, ev, rv⟩ := p4.obj n _ es
          rw [gx] at ey; cases ey
          have s5 := Step.put (o := .dK (putK ks k v)) ev (List.mem_of_getElem? gx) (fun _ z => by cases z) (fun _ _ z => by cases z)
          have hks : ks.length = kvs.length := Paired.length rv
          refine .inr ⟨x, _, ex, .inl ⟨ks, k, ev, keyD_ok rr4 ek, big_lt (by rw [hks]; exact hl), rfl⟩, ?_⟩
          refine h6 σ μ4 _ s5 (p4.put gx ev (fun _ z => by cases z) (fun _ _ z => by cases z) ⟨_, upd_same, (Rkv.mono s5 rv).put (Rv.mono s5 _ rw')⟩) (e4.mono s5)
        · exact h6.elim
      · exact h6.elim
    · rename_i kvs es
      split at h6
      · rename_i ds
        split at h6
        · rename_i k ek
          split at h6
          · rename_i hl
            obtain ⟨y, ey, ks, ev, rv⟩ := p4.obj n _ es
            rw [gx] at ey; cases ey
            obtain ⟨b', vs, e2, q5, r5⟩ := rr4.tupH
            have s5 := Step.put (o := .dT (putK ks k v)) ev (List.mem_of_getElem? gx) (fun _ z => by cases z) (fun _ _ z => by cases z)
            have hks : ks.length = kvs.length := Paired.length rv
            refine .inr ⟨x, _, ex, .inr ⟨ks, k, b', ev, e2, by rw [q5, keysD_ok r5 ek], big_lt (by rw [hks]; exact hl), rfl⟩, ?_⟩
            refine h6 σ μ4 _ s5 (p4.put gx ev (fun _ z => by cases z) (fun _ _ z => by cases z) ⟨_, upd_same, (Rkv.mono s5 rv).put (Rv.mono s5 _ rw')⟩) (e4.mono s5)
          · exact h6.elim
        · exact h6.elim
      · exact h6.elim
    · exact h6.elim
  · exact h6.elim
/-! {} -/
def dNewK : DE := fun _ st => .ok (.new (.dk [])) st
def dNewT : DE := fun _ st => .ok (.new (.dt [])) st
theorem asDt_not {a : R} {kvs : List (List Key × D)} (e : asDt a st = some kvs) : asDk a st = none := by
  cases a with
  | new o => cases o <;> simp_all [asDt, asDk]
  | val d =>
    cases d <;> simp [asDt, asDk] at *
    rename_i n
    cases h : st[n]? with
    | none => simp [h] at e
    | some o => cases o <;> simp [h] at e ⊢
/-! d.get(k, x) -/
def gGet2 : GM := fun a rs st => match asDk a st, rs with
  | some kvs, [.val d, r] => match keyD d, r with
    | some k, .val e => .ok (.val ((getK kvs k).getD e)) st
    | some k, .new o => match getK kvs k with
      | some e => .ok (.val e) st
      | none => .ok (.new o) st
    | none, _ => .bad
  | some _, _ => .bad
  | none, rs => match asDt a st, rs with
    | some kvs, [.val (.tup ds), r] => match keysD ds, r with
      | some k, .val e => .ok (.val ((getK kvs k).getD e)) st
      | some k, .new o => match getK kvs k with
        | some e => .ok (.val e) st
        | none => .ok (.new o) st
      | none, _ => .bad
    | _, _ => .bad
def rGet2 : V → List V → Hp → VK → Prop := fun x xs H Q => ∃ a y z o, x = .ref a ∧ xs = [y, z] ∧ DGet H a y o ∧ Q (o.getD z) H
theorem mt_get2 {X : Cx} (hu : X.A.units + 1 < cLine) : MtR X "dict.get" rGet2 := by
  intro pins s σ H x xs v us Q I rx rxs h
  obtain ⟨a, y, z, o, rfl, rfl, g, q⟩ := h
  cases rx
  cases rxs with
  | cons r1 t1 =>
    cases t1 with
    | cons r2 t2 =>
      cases t2
      exact d_get2 hu I g r1 r2 fun w' s' I' rw' => ⟨_, H, I', rw', q⟩
theorem get2_ok : MtOk K mg E rGet2 gGet2 := by
  intro μ0 H0 μ H st x a vs rs Q s p ra rrs f
  have f0 := f
  replace f := FinG.later relR_ok s f
  unfold gGet2 at f f0
  split at f
  · rename_i kvs d r e
    obtain ⟨y, z, ev, ry, rz⟩ := rrs.two
    obtain ⟨u, ks, e1, q1, r1⟩ := asDk_ok p ra e
    split at f
    · rename_i k e' ek
      refine ⟨u, y, z, valV ks k, e1, ev, .inl ⟨ks, k, .inl q1, keyD_ok ry ek, rfl⟩, ?_⟩
      cases g : getK kvs k with
      | none =>
        rw [g] at f
        rw [r1.get.2 g]
        exact Fin.val f p rz
      | some d' =>
        rw [g] at f
        obtain ⟨v', q2, r2⟩ := r1.get.1 _ g
        rw [q2]
        exact Fin.val f p r2
    · rename_i k o ek
      refine ⟨u, y, z, valV ks k, e1, ev, .inl ⟨ks, k, .inl q1, keyD_ok ry ek, rfl⟩, ?_⟩
      simp only [e, ek] at f0
      split at f
      · rename_i d' g
        obtain ⟨v', q2, r2⟩ := r1.get.1 _ g
        rw [q2]
        exact Fin.val f p r2
      · rename_i g
        rw [r1.get.2 g]
        rw [g] at f0
        exact f0 z μ H s p rz
    · exact f.elim
  · exact f.elim
  · split at f
    · rename_i kvs ds r e
      obtain ⟨y, z, ev, ry, rz⟩ := rrs.two
      obtain ⟨u, ks, e1, q1, r1⟩ := asDt_ok p ra e
      obtain ⟨b', vs', e2, q3, r3⟩ := ry.tupH
      split at f
      · rename_i k e' ek
        refine ⟨u, y, z, valV ks k, e1, ev, .inr ⟨ks, k, b', .inl q1, e2, by rw [q3, keysD_ok r3 ek], rfl⟩, ?_⟩
        cases g : getK kvs k with
        | none =>
          rw [g] at f
          rw [r1.get.2 g]
          exact Fin.val f p rz
        | some d' =>
          rw [g] at f
          obtain ⟨v', q2, r2⟩ := r1.get.1 _ g
          rw [q2]
          exact Fin.val f p r2
      · rename_i k o ek
        refine ⟨u, y, z, valV ks k, e1, ev, .inr ⟨ks, k, b', .inl q1, e2, by rw [q3, keysD_ok r3 ek], rfl⟩, ?_⟩
        have e0 := asDt_not e
        simp only [e0, e, ek] at f0
        split at f
        · rename_i d' g
          obtain ⟨v', q2, r2⟩ := r1.get.1 _ g
          rw [q2]
          exact Fin.val f p r2
        · rename_i g
          rw [r1.get.2 g]
          rw [g] at f0
          exact f0 z μ H s p rz
      · exact f.elim
    · exact f.elim
/-! k in d, x in xs -/
def flatO : D → Option V
  | .non => some .non
  | .bl b => some (.bl b)
  | .int i => some (.int i)
  | .str x => some (.str x)
  | _ => none
def flatOs : List D → Option (List V)
  | [] => some []
  | d :: ds => match flatO d, flatOs ds with
    | some v, some vs => some (v :: vs)
    | _, _ => none
theorem flatO_ok {d : D} {w : V} (r : Rv K μ H v d) (e : flatO d = some w) : v = w ∧ flatV w = true := by
  cases d <;> simp [flatO] at e <;> subst e <;> unfold Rv at r <;> exact ⟨r, rfl⟩
theorem flatOs_ok : ∀ {ds : List D} {vs ws : List V}, Rvs K μ H vs ds → flatOs ds = some ws → vs = ws ∧ ws.all flatV = true
  | [], vs, ws, r, e => by unfold Rvs at r; unfold flatOs at e; cases e; exact ⟨r, rfl⟩
  | d :: ds, vs, ws, r, e => by
    unfold Rvs at r
    unfold flatOs at e
    obtain ⟨v, vr, e1, r1, r2⟩ := r
    split at e
    · rename_i w ws' h1 h2
      cases e
      obtain ⟨a1, a2⟩ := flatO_ok r1 h1
      obtain ⟨b1, b2⟩ := flatOs_ok r2 h2
      exact ⟨by rw [e1, a1, b1], by rw [List.all_cons, a2, b2]; rfl⟩
    · cases e
def hasIn (a b : R) (st : Sto) : Option Bool := match asDk b st, a with
  | some kvs, .val d => match keyD d with
    | some k => some (getK kvs k).isSome
    | none => none
  | some _, _ => none
  | none, a => match asDt b st, a with
    | some kvs, .val (.tup ds) => match keysD ds with
      | some k => some (getK kvs k).isSome
      | none => none
    | some _, _ => none
    | none, .val d => match flatO d, asQ b st with
      | some w, some ds => match flatOs ds with
        | some ws => some (inV w ws)
        | none => none
      | _, _ => none
    | none, _ => none
def gIn : G2 := fun a b st => match hasIn a b st with
  | some k => .ok (.val (.bl k)) st
  | none => .bad
def gNotIn : G2 := fun a b st => match hasIn a b st with
  | some k => .ok (.val (.bl (!k))) st
  | none => .bad
def rInA (K : PySem.W.Frag) (neg : Bool) : R2 := fun x y H Q => rIn K neg x y H Q ∨ ∃ a o, y = .ref a ∧ DGet H a x o ∧ Q (.bl (if neg = true then !o.isSome else o.isSome)) H
theorem op_inA {X : Cx} (hu : X.A.units + 1 < cLine) : OpR X (compareOp .In) (rInA X.K false) := by
  intro pins s σ H x y v u Q I rx ry h
  rcases h with h | ⟨a, o, rfl, g, q⟩
  · exact op_in_seq pins s σ H x y v u Q I rx ry h
  · cases ry
    exact d_in hu I g rx fun s' I' => ⟨.bl o.isSome, H, I', rfl, q⟩
theorem op_notInA {X : Cx} (hu : X.A.units + 1 < cLine) : OpR X (compareOp .NotIn) (rInA X.K true) := by
  intro pins s σ H x y v u Q I rx ry h
  rcases h with h | ⟨a, o, rfl, g, q⟩
  · exact op_notIn_seq pins s σ H x y v u Q I rx ry h
  · cases ry
    exact d_notIn hu I g rx fun s' I' => ⟨.bl (!o.isSome), H, I', rfl, q⟩
theorem RvKv.isSome {κ : Type} [DecidableEq κ] {k : κ} {ks : List (κ × V)} {kvs : List (κ × D)} (r : Rkv K μ H ks kvs) : (valV ks k).isSome = (getK kvs k).isSome := by
  cases g : getK kvs k with
  | none => rw [r.get.2 g]; rfl
  | some d => obtain ⟨v, e, _⟩ := r.get.1 d g; rw [e]; rfl
theorem hasIn_ok {H0 : Hp} {x y : V} {k : Bool} (neg : Bool) {Q : VK} (p : Rep K μ H st) (ra : RvR K μ H H0 x a) (rb : RvR K μ H H0 y b) (e : hasIn a b st = some k) (q : Q (.bl (if neg = true then !k else k)) H) : rInA K neg x y H Q := by
  unfold hasIn at e
  split at e
  · rename_i kvs d e1
    split at e
    · rename_i k' ek
      cases e
      obtain ⟨u, ks, e2, q2, r2⟩ := asDk_ok p rb e1
      exact .inr ⟨u, valV ks k', e2, .inl ⟨ks, k', .inl q2, keyD_ok ra ek, rfl⟩, by rw [RvKv.isSome r2]; exact q⟩
    · cases e
  · cases e
  · split at e
    · rename_i kvs ds e1
      split at e
      · rename_i k' ek
        cases e
        obtain ⟨u, ks, e2, q2, r2⟩ := asDt_ok p rb e1
        obtain ⟨b', vs', e3, q3, r3⟩ := ra.tupH
        exact .inr ⟨u, valV ks k', e2, .inr ⟨ks, k', b', .inl q2, e3, by rw [q3, keysD_ok r3 ek], rfl⟩, by rw [RvKv.isSome r2]; exact q⟩
      · cases e
    · cases e
    · rename_i d
      split at e
      · rename_i w ds ew eq
        split at e
        · rename_i ws es
          cases e
          obtain ⟨f1, f2⟩ := flatO_ok ra ew
          obtain ⟨u, vs, e3, q3, r3⟩ := asQ_ok p rb eq
          obtain ⟨g1, g2⟩ := flatOs_ok r3 es
          subst f1 g1
          refine .inl ⟨u, _, e3, q3, f2, g2, ?_⟩
          cases neg <;> exact q
        · cases e
      · cases e
    · cases e
theorem in_ok {K mg E} : OpOk K mg E (rInA K false) gIn := by
  intro μ H H0 st x y a b Q p ra rb f
  unfold gIn at f
  split at f
  · rename_i k e
    exact hasIn_ok false p ra rb e (Fin.val f p Rv.bl')
  · exact f.elim
theorem notIn_ok {K mg E} : OpOk K mg E (rInA K true) gNotIn := by
  intro μ H H0 st x y a b Q p ra rb f
  unfold gNotIn at f
  split at f
  · rename_i k e
    exact hasIn_ok true p ra rb e (Fin.val f p Rv.bl')
  · exact f.elim
end
section
variable {X : Cx} {E : XK} {a : Expr} {f1 f2 f3 : DE} {pos : Pos}
theorem x_newK : PX X E (.Dict [] [] pos) dNewK := pe_imp pe_dnewK fun σ H Q h => by
  obtain ⟨μ, ρ, st, p, e, h⟩ := h
  intro a ha
  exact Fin.new h p ha ⟨[], upd_same, .nil⟩
theorem x_newT : PX X E (.Dict [] [] pos) dNewT := pe_imp pe_dnewT fun σ H Q h => by
  obtain ⟨μ, ρ, st, p, e, h⟩ := h
  intro a ha
  exact Fin.new h p ha ⟨[], upd_same, .nil⟩
theorem xs_put {o i : Expr} {pos' : Pos} (hu : X.A.units + 1 < cLine) (hv : PX X E a f1) (ho : PX X E o f2) (hi : PX X E i f3)
    (ha : ∀ v, assign (.Subscript o i pos') X.env v = (do
      let ov ← holding [v] (eval o X.env)
      let iv ← holding [v, ov] (eval i X.env)
      standAt pos'
      holding [v, ov, iv] (setItem ov iv v)
      release [v, ov, iv] []) := by intro _; rfl)
    (hs : swapsWithSole [.Subscript o i pos'] a pos.line X.env = pure false := by rfl) (hw : swappedStores [.Subscript o i pos'] a X.env = pure none := by rfl)
    (h1 : (assignEach [.Subscript o i pos'] X.env).map (·.2) = [assign (.Subscript o i pos') X.env] := by rfl) : PXS X E (.Assign [.Subscript o i pos'] a pos) (sPut f1 f2 f3) :=
  ps_imp (ps_asg hv (pg_sub ho hi (set_all hu) ha) hs hw h1) tg_put
end
theorem u1 {X : Cx} (h : X.A.units + 64 < cLine) : X.A.units + 1 < cLine := by omega
end MM
namespace MM
open PySem PySem.Spec PyProof.Rows L2
/-! ### evaluation by simp -/
def lenOk (ds : List D) : Bool := decide (ds.length < 1000000)
theorem lenOk_of {ds : List D} (h : ds.length < 1000000) : lenOk ds = true := decide_eq_true h
@[simp] theorem lenOk0 : lenOk [] = true := id rfl
@[simp] theorem lenOk1 (a : D) : lenOk [a] = true := id rfl
@[simp] theorem lenOk2 (a b : D) : lenOk [a, b] = true := id rfl
@[simp] theorem lenOk3 (a b c : D) : lenOk [a, b, c] = true := id rfl
@[simp] theorem lenOk4 (a b c d : D) : lenOk [a, b, c, d] = true := id rfl
@[simp] theorem lenOk5 (a b c d e : D) : lenOk [a, b, c, d, e] = true := id rfl
@[simp] theorem lenOk6 (a b c d e f : D) : lenOk [a, b, c, d, e, f] = true := id rfl
@[simp] theorem lenOk7 (a b c d e f g : D) : lenOk [a, b, c, d, e, f, g] = true := id rfl
@[simp] theorem lenOk8 (a b c d e f g h : D) : lenOk [a, b, c, d, e, f, g, h] = true := id rfl
section
variable (ρ : En) (st : Sto)
@[simp] theorem ev_c (d : D) : dC d ρ st = .ok (.val d) st := id rfl
@[simp] theorem ev_v (i : Nat) : dV i ρ st = match ρ[i]? with
  | some (some d) => .ok (.val d) st
  | _ => .bad := id rfl
@[simp] theorem ev_bin (g : G2) (f1 f2 : DE) : dBin g f1 f2 ρ st = (f1 ρ st).bind fun a st1 => (f2 ρ st1).bind fun b st2 => g a b st2 := id rfl
@[simp] theorem ev_un (g : R → Sto → Out R) (f : DE) : dUn g f ρ st = (f ρ st).bind g := id rfl
@[simp] theorem ev_anil : aNil ρ st = .ok [] st := id rfl
@[simp] theorem ev_acons (f : DE) (fa : DA) : aCons f fa ρ st = (f ρ st).bind fun r st1 => (fa ρ st1).bind fun rs st2 => .ok (r :: rs) st2 := id rfl
@[simp] theorem ev_cb (g : GC) (fa : DA) : dCB g fa ρ st = (fa ρ st).bind g := id rfl
@[simp] theorem ev_tup (fa : DA) : dTup fa ρ st = (fa ρ st).bind fun rs st1 => let q := allocs rs st1; if lenOk q.1 = true then .ok (.val (.tup q.1)) q.2 else .bad := by
  simp only [lenOk, decide_eq_true_eq]
  rfl
@[simp] theorem ev_lst (fa : DA) : dLst fa ρ st = (fa ρ st).bind fun rs st1 => let q := allocs rs st1; if lenOk q.1 = true then .ok (.new (.lst q.1)) q.2 else .bad := by
  simp only [lenOk, decide_eq_true_eq]
  rfl
@[simp] theorem ev_if (t : DT) (f1 f2 : DE) : dIf t f1 f2 ρ st = (t ρ st).bind fun b st1 => if b = true then f1 ρ st1 else f2 ρ st1 := id rfl
@[simp] theorem ev_call (F : FD) (fa : DA) : dCall F fa ρ st = (fa ρ st).bind fun rs st1 => callF F rs st1 := id rfl
@[simp] theorem ev_and (f1 f2 : DE) : dAnd f1 f2 ρ st = (f1 ρ st).bind fun a st1 => (gB a st1).bind fun b st1 => if b = true then f2 ρ st1 else .ok (.val (.bl false)) st1 := id rfl
@[simp] theorem ev_or (f1 f2 : DE) : dOr f1 f2 ρ st = (f1 ρ st).bind fun a st1 => (gB a st1).bind fun b st1 => if b = true then .ok (.val (.bl true)) st1 else f2 ρ st1 := id rfl
@[simp] theorem ev_bm (T : Ty) (g : GM) (fo : DE) (fa : DA) : dBM T g fo fa ρ st = (fo ρ st).bind fun a st1 => if tyOf a st1 = some T then (fa ρ st1).bind fun rs st2 => g a rs st2 else .bad := id rfl
@[simp] theorem ev_sl (f : DE) (lo hi : DO) : dSl f lo hi ρ st = (f ρ st).bind fun a st1 => (lo ρ st1).bind fun l st2 => (hi ρ st2).bind fun h st3 => gSl a l h st3 := id rfl
@[simp] theorem ev_onone : oNone ρ st = .ok none st := id rfl
@[simp] theorem ev_osome (f : DE) : oSome f ρ st = (f ρ st).bind fun a st1 => match a with
  | .val (.int i) => .ok (some i) st1
  | _ => .bad := id rfl
@[simp] theorem ev_tofb (f : DE) : tOfB f ρ st = (f ρ st).bind gB := id rfl
@[simp] theorem ev_tru (f : DE) : tTru f ρ st = (f ρ st).bind truth := id rfl
@[simp] theorem ev_tand (t1 t2 : DT) : tAnd' t1 t2 ρ st = (t1 ρ st).bind fun b st1 => if b = true then t2 ρ st1 else .ok false st1 := id rfl
@[simp] theorem ev_tor (t1 t2 : DT) : tOr' t1 t2 ρ st = (t1 ρ st).bind fun b st1 => if b = true then .ok true st1 else t2 ρ st1 := id rfl
@[simp] theorem ev_tnot (t1 : DT) : tNot' t1 ρ st = (t1 ρ st).bind fun b st1 => .ok (!b) st1 := id rfl
@[simp] theorem ev_tyes : tYes' ρ st = .ok true st := id rfl
@[simp] theorem ev_chain (g g' : G2) (f1 f2 f3 : DE) : dChain g g' f1 f2 f3 ρ st = (f1 ρ st).bind fun a st1 => (f2 ρ st1).bind fun b st2 => (g a b st2).bind fun r st3 => (gB r st3).bind fun k st3 =>
  if k = true then (f3 ρ st3).bind fun c st4 => g' b c st4 else .ok (.val (.bl false)) st3 := id rfl
@[simp] theorem ev_lrange (fa : DA) : dListRange fa ρ st = (fa ρ st).bind fun rs st1 => match rs with
  | [.val (.int n)] => if 0 ≤ n ∧ n < 1000000 then .ok (.new (.lst (ups 0 n.toNat))) st1 else .bad
  | _ => .bad := id rfl
@[simp] theorem ev_seq (s1 s2 : DS) : sSeq s1 s2 ρ st = (s1 ρ st).then s2 := id rfl
@[simp] theorem ev_then_nx (k : En → Sto → SO) : (SO.nx ρ st).then k = k ρ st := id rfl
@[simp] theorem ev_then_rt (r : R) (k : En → Sto → SO) : (SO.rt r st).then k = .rt r st := id rfl
@[simp] theorem ev_then_bk (k : En → Sto → SO) : (SO.bk ρ st).then k = .bk ρ st := id rfl
@[simp] theorem ev_then_ct (k : En → Sto → SO) : (SO.ct ρ st).then k = .ct ρ st := id rfl
@[simp] theorem ev_snil : sNil ρ st = .nx ρ st := id rfl
@[simp] theorem ev_drop (f : DE) : sDrop f ρ st = SO.of ρ (f ρ st) fun _ st1 => .nx ρ st1 := id rfl
@[simp] theorem ev_ret (f : DE) : sRet f ρ st = SO.of ρ (f ρ st) fun r st1 => .rt r st1 := id rfl
@[simp] theorem ev_retn : sRetN ρ st = .rt (.val .non) st := id rfl
@[simp] theorem ev_sif (t : DT) (s1 s2 : DS) : sIf t s1 s2 ρ st = SO.of ρ (t ρ st) fun b st1 => if b = true then s1 ρ st1 else s2 ρ st1 := id rfl
@[simp] theorem ev_set (i : Nat) (f : DE) : sSet i f ρ st = SO.of ρ (f ρ st) fun r st1 => .nx (ρ.set i (some (toD r st1).1)) (toD r st1).2 := id rfl
@[simp] theorem ev_unp (t : Tg) (f : DE) : sUnp t f ρ st = SO.of ρ (f ρ st) fun r st1 => match r with
  | .val d => match bindT t d ρ with
    | some ρ1 => .nx ρ1 st1
    | none => .bad
  | .new _ => .bad := id rfl
@[simp] theorem ev_par (i j : Nat) (fa : DA) : sPar i j fa ρ st = SO.of ρ (fa ρ st) fun rs st1 => let q := allocs rs st1; match q.1 with
  | [d, e] => .nx ((ρ.set i (some d)).set j (some e)) q.2
  | _ => .bad := id rfl
@[simp] theorem ev_six (fv fo fi : DE) : sIx fv fo fi ρ st = SO.of ρ (fv ρ st) fun r st1 => SO.of ρ (fo ρ (toD r st1).2) fun o st2 => SO.of ρ (fi ρ st2) fun i st3 => match o, i with
  | .val (.loc n), .val (.int k) => match st3[n]? with
    | some (.lst ds) => match ixN ds.length k with
      | some j => .nx ρ (st3.set n (.lst (ds.set j (toD r st1).1)))
      | none => .bad
    | _ => .bad
  | _, _ => .bad := id rfl
@[simp] theorem ev_aug (i : Nat) (g : Int → Int → Int) (f : DE) : sAug i g f ρ st = match ρ[i]? with
  | some (some (.int n)) => SO.of ρ (f ρ st) fun r st1 => match r with
    | .val (.int m) => .nx (ρ.set i (some (.int (g n m)))) st1
    | _ => .bad
  | _ => .bad := rfl
def seqOf (a : R) (st1 : Sto) : Out Src := match a with
  | .val (.tup ds) => .ok (ds, fun _ => True) st1
  | .val (.kt ds) => .ok (ds, fun _ => True) st1
  | a => match asLr a st1 with
    | some ds => .ok (ds, chkOf a ds) st1
    | none => .bad
@[simp] theorem ev_iseq (f : DE) : iSeq f ρ st = (f ρ st).bind seqOf := id rfl
@[simp] theorem seqOf_tup (ds : List D) : seqOf (.val (.tup ds)) st = .ok (ds, fun _ => True) st := id rfl
@[simp] theorem seqOf_kt (ds : List D) : seqOf (.val (.kt ds)) st = .ok (ds, fun _ => True) st := id rfl
@[simp] theorem seqOf_rol (ds : List D) : seqOf (.val (.rol ds)) st = .ok (ds, fun _ => True) st := id rfl
@[simp] theorem seqOf_new (ds : List D) : seqOf (.new (.lst ds)) st = .ok (ds, fun _ => True) st := id rfl
theorem ev_for (src : DI) (tg : Tg) (body : DS) (ks : List Nat) : sFor src tg body ks ρ st = SO.of ρ (src ρ st) fun p st1 => forL p.2 tg body ks p.1 ρ st1 := id rfl
theorem ev_lc (src : DI) (tg : Tg) (tt : DT) (el : DE) (ws : List Nat) : dLc src tg tt el ws ρ st = (src ρ st).bind fun p st1 => (lcL p.2 tg tt el (wipeE ρ ws) p.1 st1 []).bind fun acc st2 => .ok (.new (.lst acc)) st2 := id rfl
end
@[simp] theorem toD_val (d : D) (st : Sto) : toD (.val d) st = (d, st) := id rfl
@[simp] theorem toD_new (o : O) (st : Sto) : toD (.new o) st = (.loc st.length, st ++ [o]) := id rfl
@[simp] theorem allocs_nil (st : Sto) : allocs [] st = ([], st) := id rfl
@[simp] theorem allocs_val (d : D) (rs : List R) (st : Sto) : allocs (.val d :: rs) st = (d :: (allocs rs st).1, (allocs rs st).2) := id rfl
@[simp] theorem allocs_new (o : O) (rs : List R) (st : Sto) : allocs (.new o :: rs) st = (.loc st.length :: (allocs rs (st ++ [o])).1, (allocs rs (st ++ [o])).2) := id rfl
@[simp] theorem gB_bl (b : Bool) (st : Sto) : gB (.val (.bl b)) st = .ok b st := id rfl
@[simp] theorem gNotB_bl (b : Bool) (st : Sto) : gNotB (.val (.bl b)) st = .ok (.val (.bl (!b))) st := id rfl
@[simp] theorem gNeg_int (i : Int) (st : Sto) : gNeg (.val (.int i)) st = .ok (.val (.int (-i))) st := id rfl
@[simp] theorem gAdd_int (i j : Int) (st : Sto) : gAdd (.val (.int i)) (.val (.int j)) st = .ok (.val (.int (i + j))) st := id rfl
@[simp] theorem gSub_int (i j : Int) (st : Sto) : gSub (.val (.int i)) (.val (.int j)) st = .ok (.val (.int (i - j))) st := id rfl
@[simp] theorem gLt_int (i j : Int) (st : Sto) : gLt (.val (.int i)) (.val (.int j)) st = .ok (.val (.bl (decide (i < j)))) st := id rfl
@[simp] theorem gLe_int (i j : Int) (st : Sto) : gLe (.val (.int i)) (.val (.int j)) st = .ok (.val (.bl (decide (i ≤ j)))) st := id rfl
@[simp] theorem gGt_int (i j : Int) (st : Sto) : gGt (.val (.int i)) (.val (.int j)) st = .ok (.val (.bl (decide (j < i)))) st := id rfl
@[simp] theorem gGe_int (i j : Int) (st : Sto) : gGe (.val (.int i)) (.val (.int j)) st = .ok (.val (.bl (decide (j ≤ i)))) st := id rfl
@[simp] theorem gI_int (g : Int → Int → D) (i j : Int) (st : Sto) : gI g (.val (.int i)) (.val (.int j)) st = .ok (.val (g i j)) st := id rfl
@[simp] theorem gEq_int (i j : Int) (st : Sto) : gEq (.val (.int i)) (.val (.int j)) st = .ok (.val (.bl (decide (i = j)))) st := id rfl
@[simp] theorem gEq_str (i j : Str) (st : Sto) : gEq (.val (.str i)) (.val (.str j)) st = .ok (.val (.bl (decide (i = j)))) st := id rfl
@[simp] theorem gEq_bl (i j : Bool) (st : Sto) : gEq (.val (.bl i)) (.val (.bl j)) st = .ok (.val (.bl (decide (i = j)))) st := id rfl
@[simp] theorem gNe_int (i j : Int) (st : Sto) : gNe (.val (.int i)) (.val (.int j)) st = .ok (.val (.bl (!decide (i = j)))) st := id rfl
@[simp] theorem gNe_str (i j : Str) (st : Sto) : gNe (.val (.str i)) (.val (.str j)) st = .ok (.val (.bl (!decide (i = j)))) st := id rfl
@[simp] theorem gIs_non (a : R) (st : Sto) : gIs a (.val .non) st = .ok (.val (.bl (isNon a))) st := id rfl
@[simp] theorem gIsNot_non (a : R) (st : Sto) : gIsNot a (.val .non) st = .ok (.val (.bl (!isNon a))) st := id rfl
@[simp] theorem gIs_bl (i j : Bool) (st : Sto) : gIs (.val (.bl i)) (.val (.bl j)) st = .ok (.val (.bl (decide (i = j)))) st := id rfl
@[simp] theorem gIsNot_bl (i j : Bool) (st : Sto) : gIsNot (.val (.bl i)) (.val (.bl j)) st = .ok (.val (.bl (!decide (i = j)))) st := id rfl
@[simp] theorem isNon_new (o : O) : isNon (.new o) = false := id rfl
@[simp] theorem isNon_int (i : Int) : isNon (.val (.int i)) = false := id rfl
@[simp] theorem isNon_tup (i : List D) : isNon (.val (.tup i)) = false := id rfl
@[simp] theorem isNon_str (i : Str) : isNon (.val (.str i)) = false := id rfl
@[simp] theorem isNon_bl (i : Bool) : isNon (.val (.bl i)) = false := id rfl
@[simp] theorem isNon_loc (i : Nat) : isNon (.val (.loc i)) = false := id rfl
@[simp] theorem isNon_non : isNon (.val .non) = true := id rfl
@[simp] theorem gAbs_int (i : Int) (st : Sto) : gAbs [.val (.int i)] st = .ok (.val (.int (if i < 0 then -i else i))) st := id rfl
@[simp] theorem gInt_int (i : Int) (st : Sto) : gInt [.val (.int i)] st = .ok (.val (.int i)) st := id rfl
@[simp] theorem gInt_bl (i : Bool) (st : Sto) : gInt [.val (.bl i)] st = .ok (.val (.int (if i then 1 else 0))) st := id rfl
@[simp] theorem gMax2_int (i j : Int) (st : Sto) : gMax2 [.val (.int i), .val (.int j)] st = .ok (.val (.int (if j > i then j else i))) st := id rfl
@[simp] theorem gMin2_int (i j : Int) (st : Sto) : gMin2 [.val (.int i), .val (.int j)] st = .ok (.val (.int (if j < i then j else i))) st := id rfl
@[simp] theorem truth_int (i : Int) (st : Sto) : truth (.val (.int i)) st = .ok (i != 0) st := id rfl
@[simp] theorem truth_bl (i : Bool) (st : Sto) : truth (.val (.bl i)) st = .ok i st := id rfl
@[simp] theorem truth_tup (ds : List D) (st : Sto) : truth (.val (.tup ds)) st = .ok (!ds.isEmpty) st := id rfl
@[simp] theorem truth_new (ds : List D) (st : Sto) : truth (.new (.lst ds)) st = .ok (!ds.isEmpty) st := id rfl
@[simp] theorem gLen_tup (ds : List D) (st : Sto) : gLen [.val (.tup ds)] st = .ok (.val (.int ds.length)) st := id rfl
@[simp] theorem gLen_kt (ds : List D) (st : Sto) : gLen [.val (.kt ds)] st = .ok (.val (.int ds.length)) st := id rfl
@[simp] theorem gLen_rol (ds : List D) (st : Sto) : gLen [.val (.rol ds)] st = .ok (.val (.int ds.length)) st := id rfl
@[simp] theorem gLen_new (ds : List D) (st : Sto) : gLen [.new (.lst ds)] st = .ok (.val (.int ds.length)) st := id rfl
@[simp] theorem gTuple_new (ds : List D) (st : Sto) : gTuple [.new (.lst ds)] st = .ok (.val (.tup ds)) st := id rfl
@[simp] theorem gTuple_tup (ds : List D) (st : Sto) : gTuple [.val (.tup ds)] st = .ok (.val (.tup ds)) st := id rfl
@[simp] theorem gTuple_rol (ds : List D) (st : Sto) : gTuple [.val (.rol ds)] st = .ok (.val (.tup ds)) st := id rfl
@[simp] theorem gList_new (ds : List D) (st : Sto) : gList [.new (.lst ds)] st = .ok (.new (.lst ds)) st := id rfl
@[simp] theorem gList_tup (ds : List D) (st : Sto) : gList [.val (.tup ds)] st = .ok (.new (.lst ds)) st := id rfl
@[simp] theorem gList_rol (ds : List D) (st : Sto) : gList [.val (.rol ds)] st = .ok (.new (.lst ds)) st := id rfl
theorem asL_loc {n : Nat} {st : Sto} {ds : List D} (h : st[n]? = some (.lst ds)) : asL (.val (.loc n)) st = some ds := by simp only [asL, h]
theorem asLr_loc {n : Nat} {st : Sto} {ds : List D} (h : st[n]? = some (.lst ds)) : asLr (.val (.loc n)) st = some ds := by simp only [asLr, asL, h]
theorem tyOf_loc {n : Nat} {st : Sto} {ds : List D} (h : st[n]? = some (.lst ds)) : tyOf (.val (.loc n)) st = some .lst := by simp only [tyOf, h]
@[simp] theorem asLr_new (ds : List D) (st : Sto) : asLr (.new (.lst ds)) st = some ds := id rfl
@[simp] theorem asLr_rol (ds : List D) (st : Sto) : asLr (.val (.rol ds)) st = some ds := id rfl
@[simp] theorem asL_new (ds : List D) (st : Sto) : asL (.new (.lst ds)) st = some ds := id rfl
theorem gLen_loc {n : Nat} {st : Sto} {ds : List D} (h : st[n]? = some (.lst ds)) : gLen [.val (.loc n)] st = .ok (.val (.int ds.length)) st := by simp only [gLen, asLr_loc h]
theorem gTuple_loc {n : Nat} {st : Sto} {ds : List D} (h : st[n]? = some (.lst ds)) : gTuple [.val (.loc n)] st = .ok (.val (.tup ds)) st := by simp only [gTuple, asQ, asLr_loc h]
theorem gList_loc {n : Nat} {st : Sto} {ds : List D} (h : st[n]? = some (.lst ds)) : gList [.val (.loc n)] st = .ok (.new (.lst ds)) st := by simp only [gList, asQ, asLr_loc h]
theorem gAppend_loc {n : Nat} {st : Sto} {ds : List D} {d : D} (h : st[n]? = some (.lst ds)) (hl : ds.length < 1000000) : gAppend (.val (.loc n)) [.val d] st = .ok (.val .non) (st.set n (.lst (ds ++ [d]))) := by
  simp only [gAppend, toD_val, h, hl, if_true]
theorem atI_lt {α : Type} {ds : List α} {i : Int} (h0 : 0 ≤ i) (h : i < ds.length) : atI ds i = ds[i.toNat]? := by
  unfold atI ixN
  rw [if_pos h0, if_pos h]
  rfl
theorem gIx_tup {ds : List D} {i : Int} {d : D} (st : Sto) (h0 : 0 ≤ i) (h : ds[i.toNat]? = some d) : gIx (.val (.tup ds)) (.val (.int i)) st = .ok (.val d) st := by
  have hl : i < ds.length := by
    have := (List.getElem?_eq_some_iff.mp h).1
    omega
  simp only [gIx, asLr, asL, atI_lt h0 hl, h]
theorem gIx_loc {ds : List D} {i : Int} {d : D} {n : Nat} {st : Sto} (hn : st[n]? = some (.lst ds)) (h0 : 0 ≤ i) (h : ds[i.toNat]? = some d) : gIx (.val (.loc n)) (.val (.int i)) st = .ok (.val d) st := by
  have hl : i < ds.length := by
    have := (List.getElem?_eq_some_iff.mp h).1
    omega
  simp only [gIx, asLr_loc hn, atI_lt h0 hl, h]
theorem gIx_rol {ds : List D} {i : Int} {d : D} (st : Sto) (h0 : 0 ≤ i) (h : ds[i.toNat]? = some d) : gIx (.val (.rol ds)) (.val (.int i)) st = .ok (.val d) st := by
  have hl : i < ds.length := by
    have := (List.getElem?_eq_some_iff.mp h).1
    omega
  simp only [gIx, asLr_rol, atI_lt h0 hl, h]
/-- small cases: written items -/
@[simp] theorem gIx_tup0 (d : D) (ds : List D) (st : Sto) : gIx (.val (.tup (d :: ds))) (.val (.int 0)) st = .ok (.val d) st := gIx_tup st (by decide) rfl
@[simp] theorem gIx_tup1 (c d : D) (ds : List D) (st : Sto) : gIx (.val (.tup (c :: d :: ds))) (.val (.int 1)) st = .ok (.val d) st := gIx_tup st (by decide) rfl
@[simp] theorem gIx_tup2 (b c d : D) (ds : List D) (st : Sto) : gIx (.val (.tup (b :: c :: d :: ds))) (.val (.int 2)) st = .ok (.val d) st := gIx_tup st (by decide) rfl
theorem gMod_pos {i j : Int} (st : Sto) (h : 0 < j) : gMod (.val (.int i)) (.val (.int j)) st = .ok (.val (.int (i % j))) st := by
  have : decide (j ≠ 0) = true := decide_eq_true (by omega)
  simp only [gMod, gIc, this, if_true, Int.fmod_eq_emod_of_nonneg i (Int.le_of_lt h)]
theorem gMod_ne {i j : Int} (st : Sto) (h : j ≠ 0) : gMod (.val (.int i)) (.val (.int j)) st = .ok (.val (.int (i.fmod j))) st := by
  have : decide (j ≠ 0) = true := decide_eq_true h
  simp only [gMod, gIc, this, if_true]
theorem gFdiv_pos {i j : Int} (st : Sto) (h : 0 < j) (hb : j.natAbs.log2 < 9000) : gFdiv (.val (.int i)) (.val (.int j)) st = .ok (.val (.int (i / j))) st := by
  have : cDiv i j = true := decide_eq_true ⟨by omega, hb⟩
  simp only [gFdiv, gIc, this, if_true, Int.fdiv_eq_ediv_of_nonneg i (Int.le_of_lt h)]
theorem gFdiv_ne {i j : Int} (st : Sto) (h : j ≠ 0) (hb : j.natAbs.log2 < 9000) : gFdiv (.val (.int i)) (.val (.int j)) st = .ok (.val (.int (i.fdiv j))) st := by
  have : cDiv i j = true := decide_eq_true ⟨h, hb⟩
  simp only [gFdiv, gIc, this, if_true]
theorem gMul_ok {i j : Int} (st : Sto) (h : i.natAbs.log2 + j.natAbs.log2 < 1000000) : gMul (.val (.int i)) (.val (.int j)) st = .ok (.val (.int (i * j))) st := by
  have : cMul i j = true := decide_eq_true h
  simp only [gMul, this, if_true]
theorem log2_lt {n k : Nat} (h : n < 2 ^ k) (hk : 0 < k) : n.log2 < k := by
  rcases Nat.eq_zero_or_pos n with z | z
  · subst z; simpa using hk
  · exact (Nat.log2_lt (by omega)).mpr h
/-- bounds by a power of two: |i| < 2 ^ a -/
def Bd (a : Nat) (i : Int) : Prop := i.natAbs < 2 ^ a
theorem gMul_bd {i j : Int} {a b : Nat} (st : Sto) (h1 : Bd a i) (h2 : Bd b j) (ha : 0 < a) (hb : 0 < b) (h : a + b ≤ 1000000) : gMul (.val (.int i)) (.val (.int j)) st = .ok (.val (.int (i * j))) st :=
  gMul_ok st (by have := log2_lt h1 ha; have := log2_lt h2 hb; omega)
theorem gFdiv_bd {i j : Int} {b : Nat} (st : Sto) (h : 0 < j) (h2 : Bd b j) (hb : 0 < b) (h9 : b ≤ 9000) : gFdiv (.val (.int i)) (.val (.int j)) st = .ok (.val (.int (i / j))) st :=
  gFdiv_pos st h (by have := log2_lt h2 hb; omega)
theorem Bd.mul {i j : Int} {a b : Nat} (h1 : Bd a i) (h2 : Bd b j) : Bd (a + b) (i * j) := by
  unfold Bd at *
  rw [Int.natAbs_mul, Nat.pow_add]
  exact Nat.mul_lt_mul'' h1 h2
theorem Bd.add {i j : Int} {a b : Nat} (h1 : Bd a i) (h2 : Bd b j) (c : Nat) (h : max a b + 1 ≤ c) : Bd c (i + j) := by
  unfold Bd at *
  have e1 : (2 : Nat) ^ a ≤ 2 ^ (max a b) := Nat.pow_le_pow_right (by decide) (Nat.le_max_left ..)
  have e2 : (2 : Nat) ^ b ≤ 2 ^ (max a b) := Nat.pow_le_pow_right (by decide) (Nat.le_max_right ..)
  have e3 : (2 : Nat) ^ (max a b + 1) ≤ 2 ^ c := Nat.pow_le_pow_right (by decide) h
  have e4 := Nat.pow_succ 2 (max a b)
  omega
theorem Bd.neg {i : Int} {a : Nat} (h : Bd a i) : Bd a (-i) := by unfold Bd at *; rw [Int.natAbs_neg]; exact h
theorem Bd.mono {i : Int} {a b : Nat} (h : Bd a i) (hab : a ≤ b) : Bd b i := Nat.lt_of_lt_of_le h (Nat.pow_le_pow_right (by decide) hab)
theorem bd_of {i : Int} (a : Nat) (h0 : -(2 ^ a : Int) < i) (h1 : i < 2 ^ a) : Bd a i := by
  unfold Bd
  have e : ((2 ^ a : Nat) : Int) = (2 : Int) ^ a := by norm_cast
  omega

/-! ### calls and ends -/
@[simp] theorem leave_same (st : Sto) (r : R) : leave st r st = .ok r st := by unfold leave; rw [if_pos rfl]
theorem leave_len {st0 st : Sto} (r : R) (h : st.length = st0.length) : leave st0 r st = .ok r st := by unfold leave; rw [if_pos h]
theorem cutOk_take {st0 st : Sto} (h : st.take st0.length = st0) : CutOk st0 st := by
  refine ⟨?_, fun i o hi e => ?_⟩
  · have := congrArg List.length h
    rw [List.length_take] at this
    omega
  · refine .inl ?_
    rw [← h, List.getElem?_take, if_pos hi]
    exact e
/-- data: places are below n -/
theorem leave_data {st0 st : Sto} {d : D} (hn : ∀ k, d ≠ .loc k) (hc : CutOk st0 st) (hd : d.lim st0.length = true) : leave st0 (.val d) st = .ok (.val d) (st.take st0.length) := by
  by_cases h : st.length = st0.length
  · rw [leave_len _ h, List.take_of_length_le (by omega)]
  · unfold leave
    rw [if_neg h, if_pos hc]
    cases d with
    | loc k => exact absurd rfl (hn k)
    | non => simp [R.lim, D.lim]
    | ty _ => simp [R.lim, D.lim]
    | bl _ => simp [R.lim, D.lim]
    | int _ => simp [R.lim, D.lim]
    | str _ => simp [R.lim, D.lim]
    | tup ds => simp [R.lim, hd]
    | rol ds => simp [R.lim, hd]
    | kt ds => simp [R.lim, hd]
theorem leave_list {st0 st : Sto} {k : Nat} {o : O} (hk : st0.length ≤ k) (e : st[k]? = some o) (hc : CutOk st0 st) (hd : o.lim st0.length = true) : leave st0 (.val (.loc k)) st = .ok (.new o) (st.take st0.length) := by
  have hl : k < st.length := (List.getElem?_eq_some_iff.mp e).1
  unfold leave
  rw [if_neg (by omega), if_pos hc]
  simp only [e]
  rw [if_neg (by omega), if_pos hd]
theorem leave_new {st0 st : Sto} {o : O} (hc : CutOk st0 st) (hd : o.lim st0.length = true) : leave st0 (.new o) st = .ok (.new o) (st.take st0.length) := by
  by_cases h : st.length = st0.length
  · rw [leave_len _ h, List.take_of_length_le (by omega)]
  · unfold leave
    rw [if_neg h, if_pos hc]
    simp [R.lim, hd]
theorem callF_val (F : FD) {rs : List R} {ds : List D} {st : Sto} (h : allocs rs st = (ds, st)) : callF F rs st = F ds st := by
  unfold callF
  rw [h]
  simp
@[simp] theorem callF_0 (F : FD) (st : Sto) : callF F [] st = F [] st := callF_val F rfl
@[simp] theorem callF_1 (F : FD) (a : D) (st : Sto) : callF F [.val a] st = F [a] st := callF_val F rfl
@[simp] theorem callF_2 (F : FD) (a b : D) (st : Sto) : callF F [.val a, .val b] st = F [a, b] st := callF_val F rfl
@[simp] theorem callF_3 (F : FD) (a b c : D) (st : Sto) : callF F [.val a, .val b, .val c] st = F [a, b, c] st := callF_val F rfl
@[simp] theorem callF_4 (F : FD) (a b c d : D) (st : Sto) : callF F [.val a, .val b, .val c, .val d] st = F [a, b, c, d] st := callF_val F rfl
theorem callF_new {F : FD} {rs : List R} {st : Sto} (h : (allocs rs st).2.length ≠ st.length) : callF F rs st = (F (allocs rs st).1 (allocs rs st).2).bind fun r st2 => leave st r st2 := by
  unfold callF
  simp only [h, if_false]
/-! ### turns -/
theorem tidy_len {ks : List Nat} {ρ0 ρ : En} {st0 st : Sto} (h : st.length = st0.length) : tidy ks ρ0 st0 ρ st = (wipeE ρ ks, st) := by unfold tidy; rw [if_pos h]
@[simp] theorem tidy_same (ks : List Nat) (ρ0 ρ : En) (st : Sto) : tidy ks ρ0 st ρ st = (wipeE ρ ks, st) := tidy_len rfl
theorem tidy_cut {ks : List Nat} {ρ0 ρ : En} {st0 st : Sto} (hc : CutOk st0 st) (he : EnvLim ρ0 (wipeE ρ ks) st0.length) : tidy ks ρ0 st0 ρ st = (wipeE ρ ks, st.take st0.length) := by
  unfold tidy
  split
  · rename_i h
    rw [List.take_of_length_le (by omega)]
  · rw [if_pos ⟨hc, he⟩]
/-- a for that goes to its end -/
theorem forL_ind {chk : Chk} {tg : Tg} {body : DS} {ks : List Nat} (P : Nat → En → Sto → Prop) : ∀ {items : List D} {i : Nat} {ρ : En} {st : Sto}, P i ρ st →
    (∀ j d ρ st, items[j]? = some d → P (i + j) ρ st → chk st ∧ ∃ ρ1, bindT tg d ρ = some ρ1 ∧ ∃ ρ2 st2, (body ρ1 st = .nx ρ2 st2 ∨ body ρ1 st = .ct ρ2 st2) ∧ P (i + j + 1) (tidy ks ρ1 st ρ2 st2).1 (tidy ks ρ1 st ρ2 st2).2) →
    (∀ ρ st, P (i + items.length) ρ st → chk st) → ∃ ρ' st', forL chk tg body ks items ρ st = .nx ρ' st' ∧ P (i + items.length) ρ' st'
  | [], i, ρ, st, h0, _, hc => ⟨ρ, st, by unfold forL; rw [if_pos (hc ρ st h0)], h0⟩
  | d :: ds, i, ρ, st, h0, hs, hc => by
    obtain ⟨h1, ρ1, h2, ρ2, st2, h3, h4⟩ := hs 0 d ρ st rfl h0
    obtain ⟨ρ', st', h5, h6⟩ := forL_ind (chk := chk) (tg := tg) (body := body) (ks := ks) P (items := ds) (i := i + 1) h4
      (fun j d' ρ st e p => by
        have q := hs (j + 1) d' ρ st (by simpa using e)
        rw [show i + (j + 1) = i + 1 + j by omega] at q
        exact q p)
      (fun ρ st p => hc ρ st (by rw [List.length_cons, show i + (ds.length + 1) = i + 1 + ds.length by omega]; exact p))
    refine ⟨ρ', st', ?_, by rw [List.length_cons, show i + (ds.length + 1) = i + 1 + ds.length by omega]; exact h6⟩
    unfold forL
    rw [if_pos h1, h2]
    rcases h3 with h3 | h3
    · simp only [h3]; exact h5
    · simp only [h3]; exact h5
/-- a comprehension whose items are data -/
theorem lcL_map {chk : Chk} {tg : Tg} {el : DE} {ρ : En} {st : Sto} (f : D → D) (hchk : chk st) : ∀ {items : List D} {acc : List D}, acc.length + items.length ≤ 1000000 →
    (∀ d ∈ items, ∃ ρ1, bindT tg d ρ = some ρ1 ∧ el ρ1 st = .ok (.val (f d)) st) → lcL chk tg tYes' el ρ items st acc = .ok (acc ++ items.map f) st
  | [], acc, _, _ => by unfold lcL; rw [if_pos hchk]; simp
  | d :: ds, acc, hl, h => by
    obtain ⟨ρ1, h1, h2⟩ := h d List.mem_cons_self
    rw [List.length_cons] at hl
    have ih := lcL_map f hchk (items := ds) (acc := acc ++ [f d]) (by simp; omega) (fun x hx => h x (List.mem_cons_of_mem _ hx))
    unfold lcL
    rw [if_pos hchk, h1]
    simp only [ev_tyes, h2, toD_val]
    rw [if_pos (by omega), ih]
    simp
/-- .. with a test -/
theorem lcL_filter {chk : Chk} {tg : Tg} {tt : DT} {el : DE} {ρ : En} {st : Sto} (c : D → Bool) (f : D → D) (hchk : chk st) : ∀ {items : List D} {acc : List D}, acc.length + items.length ≤ 1000000 →
    (∀ d ∈ items, ∃ ρ1, bindT tg d ρ = some ρ1 ∧ tt ρ1 st = .ok (c d) st ∧ (c d = true → el ρ1 st = .ok (.val (f d)) st)) → lcL chk tg tt el ρ items st acc = .ok (acc ++ (items.filter c).map f) st
  | [], acc, _, _ => by unfold lcL; rw [if_pos hchk]; simp
  | d :: ds, acc, hl, h => by
    obtain ⟨ρ1, h1, h2, h3⟩ := h d List.mem_cons_self
    rw [List.length_cons] at hl
    unfold lcL
    rw [if_pos hchk, h1]
    cases hc : c d with
    | false =>
      have ih := lcL_filter c f hchk (items := ds) (acc := acc) (by omega) (fun x hx => h x (List.mem_cons_of_mem _ hx))
      rw [hc] at h2
      simp only [h2]
      rw [ih, List.filter_cons_of_neg (by rw [hc]; decide)]
    | true =>
      have ih := lcL_filter c f hchk (items := ds) (acc := acc ++ [f d]) (by simp; omega) (fun x hx => h x (List.mem_cons_of_mem _ hx))
      rw [hc] at h2
      simp only [h2, h3 hc, toD_val]
      rw [if_pos (by omega), ih, List.filter_cons_of_pos hc]
      simp
/-- a comprehension whose items change the store: by an invariant -/
theorem lcL_ind {chk : Chk} {tg : Tg} {el : DE} {ρ : En} (P : Nat → List D → Sto → Prop) : ∀ {items : List D} {i : Nat} {st : Sto} {acc : List D}, acc.length + items.length ≤ 1000000 → acc.length = i → P i acc st →
    (∀ j d st acc, items[j]? = some d → acc.length = i + j → P (i + j) acc st → chk st ∧ ∃ ρ1, bindT tg d ρ = some ρ1 ∧ ∃ r st2, el ρ1 st = .ok r st2 ∧ P (i + j + 1) (acc ++ [(toD r st2).1]) (toD r st2).2) →
    (∀ acc st, P (i + items.length) acc st → chk st) → ∃ acc' st', lcL chk tg tYes' el ρ items st acc = .ok acc' st' ∧ acc'.length = i + items.length ∧ P (i + items.length) acc' st'
  | [], i, st, acc, _, hl, h0, _, hc => ⟨acc, st, by unfold lcL; rw [if_pos (hc acc st h0)], hl, h0⟩
  | d :: ds, i, st, acc, hz, hl, h0, hs, hc => by
    rw [List.length_cons] at hz
    obtain ⟨h1, ρ1, h2, r, st2, h3, h4⟩ := hs 0 d st acc rfl hl h0
    obtain ⟨acc', st', h5, h6, h7⟩ := lcL_ind (chk := chk) (tg := tg) (el := el) (ρ := ρ) P (items := ds) (i := i + 1) (acc := acc ++ [(toD r st2).1]) (by simp; omega) (by simp [hl]) h4
      (fun j d' st acc e l p => by
        have q := hs (j + 1) d' st acc (by simpa using e)
        rw [show i + (j + 1) = i + 1 + j by omega] at q
        exact q l p)
      (fun acc st p => hc acc st (by rw [List.length_cons, show i + (ds.length + 1) = i + 1 + ds.length by omega]; exact p))
    have el' : i + (d :: ds).length = i + 1 + ds.length := by rw [List.length_cons]; omega
    refine ⟨acc', st', ?_, by rw [el']; exact h6, by rw [el']; exact h7⟩
    unfold lcL
    rw [if_pos h1, h2]
    simp only [ev_tyes, h3]
    rw [if_pos (by omega)]
    exact h5
/-! ### ranges -/
theorem iRange1_ok {fa : DA} {ρ : En} {st st1 : Sto} {n : Int} (h : fa ρ st = .ok [.val (.int n)] st1) (h0 : -1000000000000 < n ∧ n < 1000000000000) : iRange1 fa ρ st = .ok (ups 0 n.toNat, fun _ => True) st1 := by
  simp only [iRange1, h, Out.bind_ok]
  rw [if_pos h0]
theorem iRange1_nat {fa : DA} {ρ : En} {st st1 : Sto} {n : Nat} (h : fa ρ st = .ok [.val (.int n)] st1) (h0 : n < 1000000000000) : iRange1 fa ρ st = .ok (ups 0 n, fun _ => True) st1 := by
  rw [iRange1_ok h (by omega), Int.toNat_natCast]
theorem gMul_tup {ds : List D} {k : Nat} (st : Sto) (h : k < 1000000) (h2 : ds.length * k < 1000000) : gMul (.val (.tup ds)) (.val (.int (k : Nat))) st = .ok (.val (.tup (List.replicate k ds).flatten)) st := by
  have hc : ((k : Nat) : Int) < 1000000 ∧ -1000000 < ((k : Nat) : Int) ∧ ds.length * ((k : Nat) : Int).toNat < 1000000 := ⟨by omega, by omega, by rw [Int.toNat_natCast]; exact h2⟩
  simp only [gMul]
  rw [if_pos hc, Int.toNat_natCast]
theorem gMul_lst {ds : List D} {k : Nat} (st : Sto) (h : k < 1000000) (h2 : ds.length * k < 1000000) : gMul (.new (.lst ds)) (.val (.int (k : Nat))) st = .ok (.new (.lst (List.replicate k ds).flatten)) st := by
  have hc : ((k : Nat) : Int) < 1000000 ∧ -1000000 < ((k : Nat) : Int) ∧ ds.length * ((k : Nat) : Int).toNat < 1000000 := ⟨by omega, by omega, by rw [Int.toNat_natCast]; exact h2⟩
  simp only [gMul, asL_new]
  rw [if_pos hc, Int.toNat_natCast]
theorem srt_of {a b : List Int} (h : a.Perm b) (s : b.Pairwise (· ≤ ·)) : srt a = b := by
  unfold srt
  have h1 : (a.mergeSort fun a b => decide (a ≤ b)).Perm b := (List.mergeSort_perm a _).trans h
  have h2 : (a.mergeSort fun a b => decide (a ≤ b)).Pairwise (fun a b => a ≤ b) := by
    have := List.pairwise_mergeSort (le := fun a b : Int => decide (a ≤ b)) (fun a b c h1 h2 => by simp at *; omega) (fun a b => by simp; omega) a
    simpa using this
  exact h1.eq_of_pairwise (fun a b _ _ h1 h2 => by omega) h2 s
@[simp] theorem listInts_new (l : List Int) (st : Sto) : listInts (.new (.lst (l.map D.int))) st = some l := by simp [listInts]
@[simp] theorem seqInts_new (l : List Int) (st : Sto) : seqInts (.new (.lst (l.map D.int))) st = some l := by simp [seqInts]
@[simp] theorem seqInts_tup (l : List Int) (st : Sto) : seqInts (.val (.tup (l.map D.int))) st = some l := by simp [seqInts]
@[simp] theorem gSum_new (l : List Int) (st : Sto) : gSum [.new (.lst (l.map D.int))] st = .ok (.val (.int l.sum)) st := by simp [gSum]
@[simp] theorem gSum_tup (l : List Int) (st : Sto) : gSum [.val (.tup (l.map D.int))] st = .ok (.val (.int l.sum)) st := by simp [gSum]
theorem listInts_loc {n : Nat} {st : Sto} {l : List Int} (h : st[n]? = some (.lst (l.map D.int))) : listInts (.val (.loc n)) st = some l := by simp [listInts, asLr_loc h]
theorem gSorted_loc {n : Nat} {st : Sto} {l : List Int} (h : st[n]? = some (.lst (l.map D.int))) : gSorted [.val (.loc n)] st = .ok (.new (.lst ((srt l).map D.int))) st := by simp [gSorted, listInts_loc h]
theorem gMaxL_loc {n : Nat} {st : Sto} {l : List Int} (h : st[n]? = some (.lst (l.map D.int))) (h0 : l ≠ []) : gMaxL [.val (.loc n)] st = .ok (.val (.int (maxI l))) st := by
  cases l with
  | nil => exact absurd rfl h0
  | cons a l => simp only [gMaxL, seqInts, listInts_loc h]
theorem gMinL_loc {n : Nat} {st : Sto} {l : List Int} (h : st[n]? = some (.lst (l.map D.int))) (h0 : l ≠ []) : gMinL [.val (.loc n)] st = .ok (.val (.int (minI l))) st := by
  cases l with
  | nil => exact absurd rfl h0
  | cons a l => simp only [gMinL, seqInts, listInts_loc h]
theorem cutD_nat (ds : List D) (a c : Nat) : cutD ds (some (a : Int)) (some (c : Int)) = (ds.drop a).take (c - a) := by
  unfold cutD
  rw [HT.sIx_nat, HT.sIx_nat]
  apply List.ext_getElem?
  intro i
  rw [List.getElem?_take, List.getElem?_take, List.getElem?_drop, List.getElem?_drop]
  by_cases h1 : i < min c ds.length - min a ds.length
  · rw [if_pos h1, if_pos (by omega), show min a ds.length = a by omega]
  · rw [if_neg h1]
    by_cases h2 : i < c - a
    · rw [if_pos h2]
      exact (List.getElem?_eq_none (by omega)).symm
    · rw [if_neg h2]
end MM
namespace MM
open PySem PySem.Spec PyProof.Rows L2
noncomputable def F__law_stream : FD := dFn 3 (sSeq (sSet 1 (dC (.int 17))) (sSeq (sFor (iSeq (dV 0)) (.nm 2) (sSet 1 (dBin gMod (dCB gInt (aCons (dBin gAdd (dBin gAdd (dBin gMul (dV 1) (dC (.int 48271))) (dBin gMod (dCB gInt (aCons (dV 2) (aNil))) (dC (.int 65521)))) (dC (.int 1))) (aNil))) (dC (.int 2147483647)))) [2]) (sRet (dLst (aCons (dCB gList (aCons (dV 0) (aNil))) (aCons (dC (.int 0)) (aCons (dC (.int 0)) (aCons (dV 1) (aNil)))))))))
noncomputable def F__law_draw : FD := dFn 3 (sSeq (sIf (tAnd' (tOfB (dBin gEq (dBin gIx (dV 0) (dC (.int 1))) (dC (.int 0)))) (tOfB (dBin gLt (dBin gIx (dV 0) (dC (.int 2))) (dCB gLen (aCons (dBin gIx (dV 0) (dC (.int 0))) (aNil)))))) (sSeq (sIx (dCB gAbs (aCons (dCB gInt (aCons (dBin gIx (dBin gIx (dV 0) (dC (.int 0))) (dBin gIx (dV 0) (dC (.int 2)))) (aNil))) (aNil))) (dV 0) (dC (.int 1))) (sIx (dBin gAdd (dBin gIx (dV 0) (dC (.int 2))) (dC (.int 1))) (dV 0) (dC (.int 2)))) (sNil)) (sSeq (sIf (tOfB (dBin gEq (dBin gIx (dV 0) (dC (.int 1))) (dC (.int 0)))) (sSeq (sIx (dBin gMod (dCB gInt (aCons (dBin gAdd (dBin gMul (dBin gIx (dV 0) (dC (.int 3))) (dC (.int 48271))) (dC (.int 11))) (aNil))) (dC (.int 2147483647))) (dV 0) (dC (.int 3))) (sRet (dBin gMod (dCB gInt (aCons (dBin gFdiv (dBin gIx (dV 0) (dC (.int 3))) (dC (.int 97))) (aNil))) (dV 1)))) (sNil)) (sSeq (sSet 2 (dBin gMod (dCB gInt (aCons (dBin gIx (dV 0) (dC (.int 1))) (aNil))) (dV 1))) (sSeq (sIx (dBin gFdiv (dBin gIx (dV 0) (dC (.int 1))) (dV 1)) (dV 0) (dC (.int 1))) (sRet (dV 2))))))
noncomputable def F__law_divisor : FD := dFn 2 (sSeq (sWhile (tOfB (dBin gNe (dV 1) (dC (.int 0)))) (sPar 0 1 (aCons (dV 1) (aCons (dBin gMod (dCB gInt (aCons (dV 0) (aNil))) (dV 1)) (aNil)))) []) (sRet (dCB gAbs (aCons (dV 0) (aNil)))))
noncomputable def F__law_f : FD := dFn 3 (sSeq (sSet 2 (dCall F__law_divisor (aCons (dV 0) (aCons (dV 1) (aNil))))) (sSeq (sIf (tOfB (dBin gLt (dV 1) (dC (.int 0)))) (sSet 2 (dUn gNeg (dV 2))) (sNil)) (sRet (dTup (aCons (dBin gFdiv (dV 0) (dV 2)) (aCons (dBin gFdiv (dV 1) (dV 2)) (aNil)))))))
noncomputable def F__law_add : FD := dFn 2 (sRet (dCall F__law_f (aCons (dBin gAdd (dBin gMul (dBin gIx (dV 0) (dC (.int 0))) (dBin gIx (dV 1) (dC (.int 1)))) (dBin gMul (dBin gIx (dV 1) (dC (.int 0))) (dBin gIx (dV 0) (dC (.int 1))))) (aCons (dBin gMul (dBin gIx (dV 0) (dC (.int 1))) (dBin gIx (dV 1) (dC (.int 1)))) (aNil)))))
noncomputable def F__law_mul : FD := dFn 2 (sRet (dCall F__law_f (aCons (dBin gMul (dBin gIx (dV 0) (dC (.int 0))) (dBin gIx (dV 1) (dC (.int 0)))) (aCons (dBin gMul (dBin gIx (dV 0) (dC (.int 1))) (dBin gIx (dV 1) (dC (.int 1)))) (aNil)))))
noncomputable def F__law_neg : FD := dFn 1 (sRet (dTup (aCons (dUn gNeg (dBin gIx (dV 0) (dC (.int 0)))) (aCons (dBin gIx (dV 0) (dC (.int 1))) (aNil)))))
noncomputable def F__law_pick : FD := dFn 2 (sRet (dBin gIx (dV 1) (dCall F__law_draw (aCons (dV 0) (aCons (dCB gLen (aCons (dV 1) (aNil))) (aNil))))))
noncomputable def F__law_less : FD := dFn 2 (sRet (dBin gLt (dBin gMul (dBin gIx (dV 0) (dC (.int 0))) (dBin gIx (dV 1) (dC (.int 1)))) (dBin gMul (dBin gIx (dV 1) (dC (.int 0))) (dBin gIx (dV 0) (dC (.int 1))))))
noncomputable def F_common : FD := dFn 2 (sSeq (sWhile (tTru (dV 1)) (sPar 0 1 (aCons (dV 1) (aCons (dBin gMod (dV 0) (dV 1)) (aNil)))) []) (sRet (dCB gAbs (aCons (dV 0) (aNil)))))
noncomputable def F_fraction : FD := dFn 3 (sSeq (sSet 2 (dCall F_common (aCons (dV 0) (aCons (dV 1) (aNil))))) (sSeq (sIf (tOfB (dBin gLt (dV 1) (dC (.int 0)))) (sSet 2 (dUn gNeg (dV 2))) (sNil)) (sRet (dTup (aCons (dBin gFdiv (dV 0) (dV 2)) (aCons (dBin gFdiv (dV 1) (dV 2)) (aNil)))))))
noncomputable def F_plus : FD := dFn 2 (sRet (dCall F_fraction (aCons (dBin gAdd (dBin gMul (dBin gIx (dV 0) (dC (.int 0))) (dBin gIx (dV 1) (dC (.int 1)))) (dBin gMul (dBin gIx (dV 1) (dC (.int 0))) (dBin gIx (dV 0) (dC (.int 1))))) (aCons (dBin gMul (dBin gIx (dV 0) (dC (.int 1))) (dBin gIx (dV 1) (dC (.int 1)))) (aNil)))))
noncomputable def F_minus : FD := dFn 2 (sRet (dCall F_fraction (aCons (dBin gSub (dBin gMul (dBin gIx (dV 0) (dC (.int 0))) (dBin gIx (dV 1) (dC (.int 1)))) (dBin gMul (dBin gIx (dV 1) (dC (.int 0))) (dBin gIx (dV 0) (dC (.int 1))))) (aCons (dBin gMul (dBin gIx (dV 0) (dC (.int 1))) (dBin gIx (dV 1) (dC (.int 1)))) (aNil)))))
noncomputable def F_times : FD := dFn 2 (sRet (dCall F_fraction (aCons (dBin gMul (dBin gIx (dV 0) (dC (.int 0))) (dBin gIx (dV 1) (dC (.int 0)))) (aCons (dBin gMul (dBin gIx (dV 0) (dC (.int 1))) (dBin gIx (dV 1) (dC (.int 1)))) (aNil)))))
noncomputable def F_is_less : FD := dFn 2 (sRet (dBin gLt (dBin gMul (dBin gIx (dV 0) (dC (.int 0))) (dBin gIx (dV 1) (dC (.int 1)))) (dBin gMul (dBin gIx (dV 1) (dC (.int 0))) (dBin gIx (dV 0) (dC (.int 1))))))
noncomputable def F__law_same : Nat → FD
  | 0 => fun _ _ => .bad
  | n + 1 => dFn 4 (sSeq (sIf (tOr' (tAnd' (tTru (dCB gIsi (aCons (dV 0) (aCons (dC (.ty .tup)) (aNil))))) (tTru (dCB gIsi (aCons (dV 1) (aCons (dC (.ty .tup)) (aNil)))))) (tAnd' (tTru (dCB gIsi (aCons (dV 0) (aCons (dC (.ty .lst)) (aNil))))) (tTru (dCB gIsi (aCons (dV 1) (aCons (dC (.ty .lst)) (aNil))))))) (sRet (dAnd (dBin gEq (dCB gLen (aCons (dV 0) (aNil))) (dCB gLen (aCons (dV 1) (aNil)))) (dCB gAll (aCons (dLc (iRange1 (aCons (dCB gLen (aCons (dV 0) (aNil))) (aNil))) (.nm 2) (tYes') (dCall (F__law_same n) (aCons (dBin gIx (dV 0) (dV 2)) (aCons (dBin gIx (dV 1) (dV 2)) (aNil)))) [2]) (aNil))))) (sNil)) (sSeq (sIf (tAnd' (tTru (dCB gIsi (aCons (dV 0) (aCons (dC (.ty .dic)) (aNil))))) (tTru (dCB gIsi (aCons (dV 1) (aCons (dC (.ty .dic)) (aNil)))))) (sBad) (sNil)) (sSeq (sIf (tOr' (tAnd' (tTru (dCB gIsi (aCons (dV 0) (aCons (dC (.ty .str)) (aNil))))) (tTru (dCB gIsi (aCons (dV 1) (aCons (dC (.ty .str)) (aNil)))))) (tAnd' (tOfB (dBin gIs (dV 0) (dC .non))) (tOfB (dBin gIs (dV 1) (dC .non))))) (sRet (dBin gEq (dV 0) (dV 1))) (sNil)) (sSeq (sIf (tOr' (tNot' (tTru (dCB gIsi (aCons (dV 0) (aCons (dC (.ty .int)) (aNil)))))) (tNot' (tTru (dCB gIsi (aCons (dV 1) (aCons (dC (.ty .int)) (aNil))))))) (sRet (dC (.bl false))) (sNil)) (sRet (dAnd (dBin gEq (dV 0) (dV 1)) (dBin gEq (dCB gIsi (aCons (dV 0) (aCons (dC (.ty .bl)) (aNil)))) (dCB gIsi (aCons (dV 1) (aCons (dC (.ty .bl)) (aNil)))))))))))

/-! ### greatest common divisors -/
theorem gcd_step (a b : Int) (h : b ≠ 0) : Int.gcd b (a.fmod b) = Int.gcd a b := by
  have e := Int.fmod_def a b
  rw [e, Int.gcd_comm a b, Int.sub_eq_add_neg, ← Int.mul_neg]
  exact Int.gcd_add_mul_left_right ..
theorem natAbs_fmod_lt (a b : Int) (h : b ≠ 0) : (a.fmod b).natAbs < b.natAbs := by
  rcases Int.lt_or_gt_of_ne h with h1 | h1
  · have e := Int.neg_fmod_neg a b
    have h2 := Int.fmod_nonneg_of_pos (-a) (show 0 < -b by omega)
    have h3 := Int.fmod_lt_of_pos (-a) (show 0 < -b by omega)
    omega
  · have h2 := Int.fmod_nonneg_of_pos a h1
    have h3 := Int.fmod_lt_of_pos a h1
    omega
theorem abs_if (a : Int) : (if a < 0 then -a else a) = (a.natAbs : Int) := by
  split <;> omega
theorem divisor_while (st : Sto) : ∀ (n : Nat) (a b : Int), b.natAbs < n → ∃ c : Int, c.natAbs = Int.gcd a b ∧ whileN (tOfB (dBin gNe (dV 1) (dC (.int 0)))) (sPar 0 1 (aCons (dV 1) (aCons (dBin gMod (dCB gInt (aCons (dV 0) (aNil))) (dV 1)) (aNil)))) [] n [some (.int a), some (.int b)] st = .nx [some (.int c), some (.int 0)] st
  | 0, _, _, h => by omega
  | n + 1, a, b, h => by
    unfold whileN
    by_cases hb : b = 0
    · subst hb
      exact ⟨a, by simp, by simp⟩
    · obtain ⟨c, h1, h2⟩ := divisor_while st n b (a.fmod b) (by have := natAbs_fmod_lt a b hb; omega)
      refine ⟨c, by rw [h1, gcd_step a b hb], ?_⟩
      simp [hb, gMod_ne st hb, wipeE]
      exact h2
theorem common_while (st : Sto) : ∀ (n : Nat) (a b : Int), b.natAbs < n → ∃ c : Int, c.natAbs = Int.gcd a b ∧ whileN (tTru (dV 1)) (sPar 0 1 (aCons (dV 1) (aCons (dBin gMod (dV 0) (dV 1)) (aNil)))) [] n [some (.int a), some (.int b)] st = .nx [some (.int c), some (.int 0)] st
  | 0, _, _, h => by omega
  | n + 1, a, b, h => by
    unfold whileN
    by_cases hb : b = 0
    · subst hb
      exact ⟨a, by simp, by simp⟩
    · obtain ⟨c, h1, h2⟩ := common_while st n b (a.fmod b) (by have := natAbs_fmod_lt a b hb; omega)
      refine ⟨c, by rw [h1, gcd_step a b hb], ?_⟩
      simp [hb, gMod_ne st hb, wipeE]
      exact h2
theorem divisor_ok (a b : Int) (st : Sto) : F__law_divisor [.int a, .int b] st = .ok (.val (.int (Int.gcd a b))) st := by
  obtain ⟨c, h1, h2⟩ := divisor_while st (b.natAbs + 1) a b (by omega)
  have h3 := sWhile_of h2 (by intro z; cases z)
  unfold F__law_divisor dFn
  simp [h3, abs_if, h1]
theorem common_ok (a b : Int) (st : Sto) : F_common [.int a, .int b] st = .ok (.val (.int (Int.gcd a b))) st := by
  obtain ⟨c, h1, h2⟩ := common_while st (b.natAbs + 1) a b (by omega)
  have h3 := sWhile_of h2 (by intro z; cases z)
  unfold F_common dFn
  simp [h3, abs_if, h1]

/-! ### fractions -/
abbrev Fr := Int × Int
def encF (p : Fr) : D := .tup [.int p.1, .int p.2]
def mkF (n d : Int) : Fr := if d < 0 then (n.fdiv (-(Int.gcd n d : Int)), d.fdiv (-(Int.gcd n d : Int))) else (n.fdiv (Int.gcd n d), d.fdiv (Int.gcd n d))
theorem gcd_le_right {n d : Int} (h : d ≠ 0) : Int.gcd n d ≤ d.natAbs := by
  have h1 : Int.gcd n d ∣ d.natAbs := Int.gcd_dvd_natAbs_right ..
  exact Nat.le_of_dvd (by omega) h1
theorem gcd_pos_right {n d : Int} (h : d ≠ 0) : 0 < Int.gcd n d := Int.gcd_pos_of_ne_zero_right n h
theorem gcd_log {n d : Int} (h : d ≠ 0) (hb : d.natAbs.log2 < 9000) : (Int.gcd n d : Int).natAbs.log2 < 9000 := by
  have h1 := gcd_le_right (n := n) h
  have h2 := gcd_pos_right (n := n) h
  have h3 : (Int.gcd n d).log2 ≤ d.natAbs.log2 := by
    have := (Nat.le_log2 (n := d.natAbs) (k := (Int.gcd n d).log2) (by omega)).mpr
    exact this (Nat.le_trans (Nat.log2_self_le (by omega)) h1)
  rw [Int.natAbs_natCast]
  omega
theorem f_ok {n d : Int} (st : Sto) (h : d ≠ 0) (hb : d.natAbs.log2 < 9000) : F__law_f [.int n, .int d] st = .ok (.val (encF (mkF n d))) st := by
  have hg := gcd_pos_right (n := n) h
  have hl := gcd_log (n := n) h hb
  have hg0 : (Int.gcd n d : Int) ≠ 0 := by omega
  have hg1 : -(Int.gcd n d : Int) ≠ 0 := by omega
  have hl1 : (-(Int.gcd n d : Int)).natAbs.log2 < 9000 := by rw [Int.natAbs_neg]; exact hl
  unfold F__law_f dFn mkF encF
  by_cases hd : d < 0
  · simp only [hd, if_true]
    simp [divisor_ok, hd, gFdiv_ne st hg1 hl1]
  · simp only [hd, if_false]
    simp [divisor_ok, hd, gFdiv_ne st hg0 hl]
theorem fraction_ok {n d : Int} (st : Sto) (h : d ≠ 0) (hb : d.natAbs.log2 < 9000) : F_fraction [.int n, .int d] st = .ok (.val (encF (mkF n d))) st := by
  have hg := gcd_pos_right (n := n) h
  have hl := gcd_log (n := n) h hb
  have hg0 : (Int.gcd n d : Int) ≠ 0 := by omega
  have hg1 : -(Int.gcd n d : Int) ≠ 0 := by omega
  have hl1 : (-(Int.gcd n d : Int)).natAbs.log2 < 9000 := by rw [Int.natAbs_neg]; exact hl
  unfold F_fraction dFn mkF encF
  by_cases hd : d < 0
  · simp only [hd, if_true]
    simp [common_ok, hd, gFdiv_ne st hg1 hl1]
  · simp only [hd, if_false]
    simp [common_ok, hd, gFdiv_ne st hg0 hl]
/-! ### streams -/
structure Strm where
  ns : List Int
  cur : Int
  pos : Nat
  mix : Int
def Strm.O (k : Nat) (s : Strm) : O := .lst [.loc k, .int s.cur, .int s.pos, .int s.mix]
structure Strm.Good (s : Strm) : Prop where
  cur : 0 ≤ s.cur
  mix0 : 0 ≤ s.mix
  mix1 : s.mix < 2147483647
  len : s.ns.length ≤ 63
structure HasS (st : Sto) (i k : Nat) (s : Strm) : Prop where
  at_ : st[i]? = some (s.O k)
  ns : st[k]? = some (.lst (s.ns.map D.int))
  ne : i ≠ k
  good : s.Good
theorem HasS.set {st : Sto} {i k : Nat} {s s' : Strm} (h : HasS st i k s) (e : s'.ns = s.ns) (g : s'.Good) : HasS (st.set i (s'.O k)) i k s' :=
  ⟨by rw [List.getElem?_set_self (List.getElem?_eq_some_iff.mp h.at_).1], by rw [List.getElem?_set_ne h.ne, e]; exact h.ns, h.ne, g⟩
def mixStep (m c : Int) : Int := (m * 48271 + c % 65521 + 1) % 2147483647
theorem stream_loop (st : Sto) (x : D) : ∀ (ns : List Int) (m : Int) (y : Option D), 0 ≤ m → m < 2147483647 → forL (fun _ => True) (.nm 2) (sSet 1 (dBin gMod (dCB gInt (aCons (dBin gAdd (dBin gAdd (dBin gMul (dV 1) (dC (.int 48271))) (dBin gMod (dCB gInt (aCons (dV 2) (aNil))) (dC (.int 65521)))) (dC (.int 1))) (aNil))) (dC (.int 2147483647)))) [2] (ns.map D.int) [some x, some (.int m), y] st =
    .nx [some x, some (.int (ns.foldl mixStep m)), if ns = [] then y else none] st
  | [], m, y, _, _ => by unfold forL; simp
  | n :: ns, m, y, h0, h1 => by
    have hm : 0 ≤ mixStep m n ∧ mixStep m n < 2147483647 := ⟨Int.emod_nonneg _ (by decide), Int.emod_lt_of_pos _ (by decide)⟩
    have hmul : gMul (.val (.int m)) (.val (.int 48271)) st = .ok (.val (.int (m * 48271))) st := gMul_bd st (a := 31) (b := 16) (bd_of 31 (by omega) (by omega)) (bd_of 16 (by decide) (by decide)) (by decide) (by decide) (by decide)
    have ih := stream_loop st x ns (mixStep m n) none hm.1 hm.2
    rw [List.map_cons]
    unfold forL
    rw [if_pos trivial]
    simp only [bindT]
    simp [hmul, gMod_pos st (show (0 : Int) < 65521 by decide), gMod_pos st (show (0 : Int) < 2147483647 by decide), wipeE]
    simp only [mixStep] at ih
    rw [ih]
    simp [mixStep]
theorem stream_ok (ns : List Int) (st : Sto) : ∃ m, 0 ≤ m ∧ m < 2147483647 ∧ F__law_stream [.rol (ns.map D.int)] st = .ok (.new ((Strm.mk ns 0 0 m).O st.length)) (st ++ [.lst (ns.map D.int)]) := by
  have hl := stream_loop st (.rol (ns.map D.int)) ns 17 none (by decide) (by decide)
  have hm : ∀ (ns : List Int) (m : Int), 0 ≤ m ∧ m < 2147483647 → 0 ≤ ns.foldl mixStep m ∧ ns.foldl mixStep m < 2147483647 := by
    intro ns
    induction ns with
    | nil => intro m h; exact h
    | cons n ns ih => intro m h; exact ih _ ⟨Int.emod_nonneg _ (by decide), Int.emod_lt_of_pos _ (by decide)⟩
  obtain ⟨h0, h1⟩ := hm ns 17 (by decide)
  refine ⟨ns.foldl mixStep 17, h0, h1, ?_⟩
  unfold F__law_stream dFn
  simp [ev_for, hl, Strm.O]
  unfold leave
  rw [if_neg (by simp)]
  split
  · simp [R.lim, O.lim, D.lims, D.lim]
  · rfl

theorem map_getD {ns : List Int} {i : Nat} (h : i < ns.length) : (ns.map D.int)[i]? = some (D.int (ns.getD i 0)) := by
  rw [List.getElem?_map, List.getD_eq_getElem?_getD, List.getElem?_eq_getElem h]
  rfl
/-- one draw -/
theorem draw_ok {st : Sto} {i k : Nat} {s : Strm} {m : Int} (h : HasS st i k s) (h0 : 0 < m) (h1 : m < 1000000) :
    ∃ (v : Int) (s' : Strm), 0 ≤ v ∧ v < m ∧ s'.ns = s.ns ∧ s'.Good ∧ F__law_draw [.loc i, .int m] st = .ok (.val (.int v)) (st.set i (s'.O k)) := by
  obtain ⟨ha, hn, hne, hg⟩ := h
  obtain ⟨ns, cur, pos, mix⟩ := s
  obtain ⟨g1, g2, g3, g4⟩ := hg
  simp only at g1 g2 g3 g4 hn
  have hil : i < st.length := (List.getElem?_eq_some_iff.mp ha).1
  -- what a store with a stream answers
  have ix0 : ∀ a b c d, gIx (.val (.loc i)) (.val (.int 0)) (st.set i (.lst [a, b, c, d])) = .ok (.val a) (st.set i (.lst [a, b, c, d])) := fun a b c d => gIx_loc (List.getElem?_set_self hil) (by decide) rfl
  have ix1 : ∀ a b c d, gIx (.val (.loc i)) (.val (.int 1)) (st.set i (.lst [a, b, c, d])) = .ok (.val b) (st.set i (.lst [a, b, c, d])) := fun a b c d => gIx_loc (List.getElem?_set_self hil) (by decide) rfl
  have ix2 : ∀ a b c d, gIx (.val (.loc i)) (.val (.int 2)) (st.set i (.lst [a, b, c, d])) = .ok (.val c) (st.set i (.lst [a, b, c, d])) := fun a b c d => gIx_loc (List.getElem?_set_self hil) (by decide) rfl
  have ix3 : ∀ a b c d, gIx (.val (.loc i)) (.val (.int 3)) (st.set i (.lst [a, b, c, d])) = .ok (.val d) (st.set i (.lst [a, b, c, d])) := fun a b c d => gIx_loc (List.getElem?_set_self hil) (by decide) rfl
  have hk : ∀ o, (st.set i o)[k]? = some (.lst (ns.map D.int)) := fun o => by rw [List.getElem?_set_ne hne]; exact hn
  have ln : ∀ o, gLen [.val (.loc k)] (st.set i o) = .ok (.val (.int ns.length)) (st.set i o) := fun o => by rw [gLen_loc (hk o), List.length_map]
  have ixk : ∀ (p : Nat) o, p < ns.length → gIx (.val (.loc k)) (.val (.int (p : Nat))) (st.set i o) = .ok (.val (.int (ns.getD p 0))) (st.set i o) := fun p o hp => gIx_loc (hk o) (by omega) (by rw [Int.toNat_natCast]; exact map_getD hp)
  have self : ∀ o, (st.set i o)[i]? = some o := fun o => List.getElem?_set_self hil
  have e0 : st = st.set i ((Strm.mk ns cur pos mix).O k) := (List.ext_getElem? fun j => by
    by_cases hj : i = j
    · subst hj; rw [List.getElem?_set_self hil]; exact ha
    · rw [List.getElem?_set_ne hj])
  have e1 : ∀ o o' : O, (st.set i o).set i o' = st.set i o' := fun o o' => by rw [List.set_set]
  have hmul : ∀ (st : Sto), gMul (.val (.int mix)) (.val (.int 48271)) st = .ok (.val (.int (mix * 48271))) st := fun st => gMul_bd st (a := 31) (b := 16) (bd_of 31 (by omega) (by omega)) (bd_of 16 (by decide) (by decide)) (by decide) (by decide) (by decide)
  have hm2 : m.natAbs.log2 < 9000 := by
    have := log2_lt (n := m.natAbs) (k := 20) (by omega) (by decide)
    omega
  have h97 : (97 : Int).natAbs.log2 < 9000 := by decide
  -- the last part, from any number that is held
  have last : ∀ (c : Int) (p : Nat), 0 ≤ c → ∃ (v : Int) (s' : Strm), 0 ≤ v ∧ v < m ∧ s'.ns = ns ∧ s'.Good ∧
      ((sSeq (sIf (tOfB (dBin gEq (dBin gIx (dV 0) (dC (.int 1))) (dC (.int 0)))) (sSeq (sIx (dBin gMod (dCB gInt (aCons (dBin gAdd (dBin gMul (dBin gIx (dV 0) (dC (.int 3))) (dC (.int 48271))) (dC (.int 11))) (aNil))) (dC (.int 2147483647))) (dV 0) (dC (.int 3))) (sRet (dBin gMod (dCB gInt (aCons (dBin gFdiv (dBin gIx (dV 0) (dC (.int 3))) (dC (.int 97))) (aNil))) (dV 1)))) (sNil)) (sSeq (sSet 2 (dBin gMod (dCB gInt (aCons (dBin gIx (dV 0) (dC (.int 1))) (aNil))) (dV 1))) (sSeq (sIx (dBin gFdiv (dBin gIx (dV 0) (dC (.int 1))) (dV 1)) (dV 0) (dC (.int 1))) (sRet (dV 2))))) [some (.loc i), some (.int m), none] (st.set i ((Strm.mk ns c p mix).O k)) = .rt (.val (.int v)) (st.set i (s'.O k))) := by
    intro c p hc
    by_cases c0 : c = 0
    · subst c0
      have hx0 : 0 ≤ (mix * 48271 + 11) % 2147483647 := Int.emod_nonneg _ (by decide)
      have hx1 : (mix * 48271 + 11) % 2147483647 < 2147483647 := Int.emod_lt_of_pos _ (by decide)
      refine ⟨((mix * 48271 + 11) % 2147483647 / 97) % m, ⟨ns, 0, p, (mix * 48271 + 11) % 2147483647⟩, Int.emod_nonneg _ (by omega), Int.emod_lt_of_pos _ h0, rfl, ⟨Int.le_refl 0, hx0, hx1, g4⟩, ?_⟩
      simp only [Strm.O]
      simp [ix1, ix3, hmul, fun st => gMod_pos (i := mix * 48271 + 11) st (show (0 : Int) < 2147483647 by decide), self, ixN, e1, fun st => gFdiv_pos (i := (mix * 48271 + 11) % 2147483647) st (show (0 : Int) < 97 by decide) h97, fun st => gMod_pos (i := (mix * 48271 + 11) % 2147483647 / 97) st h0]
    · refine ⟨c % m, ⟨ns, c / m, p, mix⟩, Int.emod_nonneg _ (by omega), Int.emod_lt_of_pos _ h0, rfl, ⟨Int.ediv_nonneg hc (by omega), g2, g3, g4⟩, ?_⟩
      simp only [Strm.O]
      simp [ix1, c0, fun st => gMod_pos (i := c) st h0, fun st => gFdiv_pos (i := c) st h0 hm2, self, ixN, e1]
  have start : ∃ (c : Int) (p : Nat), 0 ≤ c ∧ ((sIf (tAnd' (tOfB (dBin gEq (dBin gIx (dV 0) (dC (.int 1))) (dC (.int 0)))) (tOfB (dBin gLt (dBin gIx (dV 0) (dC (.int 2))) (dCB gLen (aCons (dBin gIx (dV 0) (dC (.int 0))) (aNil)))))) (sSeq (sIx (dCB gAbs (aCons (dCB gInt (aCons (dBin gIx (dBin gIx (dV 0) (dC (.int 0))) (dBin gIx (dV 0) (dC (.int 2)))) (aNil))) (aNil))) (dV 0) (dC (.int 1))) (sIx (dBin gAdd (dBin gIx (dV 0) (dC (.int 2))) (dC (.int 1))) (dV 0) (dC (.int 2)))) (sNil)) [some (.loc i), some (.int m), none] (st.set i ((Strm.mk ns cur pos mix).O k)) = .nx [some (.loc i), some (.int m), none] (st.set i ((Strm.mk ns c p mix).O k))) := by
    by_cases c0 : cur = 0
    · subst c0
      by_cases hp : pos < ns.length
      · refine ⟨((ns.getD pos 0).natAbs : Int), pos + 1, by omega, ?_⟩
        have hp' : (pos : Int) < (ns.length : Int) := by omega
        simp only [Strm.O]
        simp [ix0, ix1, ix2, ln, fun o => ixk pos o hp, hp', abs_if, self, ixN, e1]
      · refine ⟨0, pos, by decide, ?_⟩
        have hp' : ¬ (pos : Int) < (ns.length : Int) := by omega
        simp only [Strm.O]
        simp [ix0, ix1, ix2, ln, hp']
    · exact ⟨cur, pos, g1, by simp only [Strm.O]; simp [ix1, c0]⟩
  obtain ⟨c, p, hc, hs⟩ := start
  obtain ⟨v, s', v0, v1, en, gd, hv⟩ := last c p hc
  refine ⟨v, s', v0, v1, en, gd, ?_⟩
  unfold F__law_draw dFn
  rw [show (([D.loc i, D.int m] : List D).map some ++ List.replicate (3 - ([D.loc i, D.int m] : List D).length) none) = [some (.loc i), some (.int m), none] from rfl]
  conv => lhs; rw [e0]
  rw [ev_seq, hs, ev_then_nx, hv]
  dsimp only
  exact leave_len _ (by simp)


end MM
namespace MM
open PySem PySem.Spec PyProof.Rows L2
/-! ### sameness -/
def okay : Nat → D → Bool
  | 0, _ => false
  | n + 1, .tup ds => decide (ds.length ≤ 1000000) && ds.all (okay n)
  | _ + 1, .non => true
  | _ + 1, .bl _ => true
  | _ + 1, .int _ => true
  | _ + 1, .str _ => true
  | _ + 1, _ => false
theorem asBls_true (ds : List D) (f : D → D) (h : ∀ d ∈ ds, f d = .bl true) : asBls (ds.map f) = some (ds.map fun _ => true) := by
  induction ds with
  | nil => rfl
  | cons d ds ih =>
    rw [List.map_cons, h d List.mem_cons_self]
    unfold asBls
    rw [ih fun x hx => h x (List.mem_cons_of_mem _ hx)]
    rfl
theorem gAll_true {ds : List D} (st : Sto) : gAll [.new (.lst (ds.map fun _ => D.bl true))] st = .ok (.val (.bl true)) st := by
  simp only [gAll, listBls, asLr_new, Option.bind_some, asBls_true ds (fun _ => D.bl true) (fun _ _ => rfl)]
  congr 3
  simp
@[simp] theorem gIsi_1 (a : R) (t : Ty) (st : Sto) : gIsi [a, .val (.ty t)] st = if t = .non then .bad else match tyOf a st with
    | some u => .ok (.val (.bl (isSub u t))) st
    | none => .bad := rfl
theorem ups_mem {lo : Int} {n : Nat} {d : D} (h : d ∈ ups lo n) : ∃ i : Nat, i < n ∧ d = .int (lo + (i : Nat)) := by
  unfold ups at h
  obtain ⟨i, hi, e⟩ := List.mem_map.mp h
  exact ⟨i, List.mem_range.mp hi, e.symm⟩
/-- the items of two lists or tuples, one by one -/
theorem same_items {n : Nat} {a b : D} {ds es : List D} {st : Sto} (la : gLen [.val a] st = .ok (.val (.int ds.length)) st) (lb : gLen [.val b] st = .ok (.val (.int es.length)) st) (he : ds.length = es.length) (hl : ds.length ≤ 1000000)
    (ia : ∀ (i : Nat) d, ds[i]? = some d → gIx (.val a) (.val (.int (i : Nat))) st = .ok (.val d) st) (ib : ∀ (i : Nat) d, es[i]? = some d → gIx (.val b) (.val (.int (i : Nat))) st = .ok (.val d) st)
    (h : ∀ (i : Nat) d e, ds[i]? = some d → es[i]? = some e → F__law_same n [d, e] st = .ok (.val (.bl true)) st) (ρ : En) (h0 : ρ[0]? = some (some a)) (h1 : ρ[1]? = some (some b)) (h2 : 2 < ρ.length) :
    dAnd (dBin gEq (dCB gLen (aCons (dV 0) (aNil))) (dCB gLen (aCons (dV 1) (aNil)))) (dCB gAll (aCons (dLc (iRange1 (aCons (dCB gLen (aCons (dV 0) (aNil))) (aNil))) (.nm 2) (tYes') (dCall (F__law_same n) (aCons (dBin gIx (dV 0) (dV 2)) (aCons (dBin gIx (dV 1) (dV 2)) (aNil)))) [2]) (aNil))) ρ st = .ok (.val (.bl true)) st := by
  have hlc := lcL_map (chk := fun _ => True) (tg := .nm 2) (el := dCall (F__law_same n) (aCons (dBin gIx (dV 0) (dV 2)) (aCons (dBin gIx (dV 1) (dV 2)) (aNil)))) (ρ := wipeE ρ [2]) (st := st) (fun _ => D.bl true) trivial (items := ups 0 ds.length) (acc := []) (by rw [ups_len, List.length_nil, Nat.zero_add]; exact hl) (fun d hd => by
    obtain ⟨i, hi, e⟩ := ups_mem hd
    subst e
    refine ⟨_, rfl, ?_⟩
    rw [Int.zero_add]
    have g0 : ((wipeE ρ [2]).set 2 (some (D.int (i : Nat))))[0]? = some (some a) := by simp [wipeE, h0]
    have g1 : ((wipeE ρ [2]).set 2 (some (D.int (i : Nat))))[1]? = some (some b) := by simp [wipeE, h1]
    have g2 : ((wipeE ρ [2]).set 2 (some (D.int (i : Nat))))[2]? = some (some (D.int (i : Nat))) := by simp [wipeE, h2]
    have hi2 : i < es.length := by omega
    have e1 := ia i _ (List.getElem?_eq_getElem hi)
    have e2 := ib i _ (List.getElem?_eq_getElem hi2)
    simp only [ev_call, ev_acons, ev_bin, ev_v, g0, g1, g2, ev_anil, Out.bind_ok, e1, e2, callF_2]
    exact h i _ _ (List.getElem?_eq_getElem hi) (List.getElem?_eq_getElem hi2))
  have hrange : iRange1 (aCons (dCB gLen (aCons (dV 0) (aNil))) (aNil)) ρ st = .ok (ups 0 ds.length, fun _ => True) st := by
    refine iRange1_nat ?_ (by omega)
    simp [h0, la]
  simp only [ev_and, ev_bin, ev_cb, ev_acons, ev_v, ev_anil, h0, h1, Out.bind_ok, la, lb, he, gEq_int, decide_true, gB_bl, if_true, ev_lc]
  rw [hrange]
  simp only [Out.bind_ok, hlc, List.nil_append]
  rw [gAll_true]
theorem gIx_tupN {ds : List D} (st : Sto) (i : Nat) (d : D) (h : ds[i]? = some d) : gIx (.val (.tup ds)) (.val (.int (i : Nat))) st = .ok (.val d) st := gIx_tup st (by omega) (by rw [Int.toNat_natCast]; exact h)
theorem gIx_locN {ds : List D} {n : Nat} {st : Sto} (hn : st[n]? = some (.lst ds)) (i : Nat) (d : D) (h : ds[i]? = some d) : gIx (.val (.loc n)) (.val (.int (i : Nat))) st = .ok (.val d) st := gIx_loc hn (by omega) (by rw [Int.toNat_natCast]; exact h)
theorem same_atom {n : Nat} {d : D} (st : Sto) (h : d = .non ∨ (∃ b, d = .bl b) ∨ (∃ b, d = .int b) ∨ ∃ b, d = .str b) : F__law_same (n + 1) [d, d] st = .ok (.val (.bl true)) st := by
  rcases h with h | ⟨b, h⟩ | ⟨b, h⟩ | ⟨b, h⟩ <;> subst h <;> unfold F__law_same dFn
  · simp [tyOf, isSub, gEq, shp, toPyR, toPy, PyData.eqv, SeqAt.shaped, PyData.canLay0, PyData.depth]
  · simp [tyOf, isSub]
  · simp [tyOf, isSub]
  · simp [tyOf, isSub]
theorem same_seq {n : Nat} {a b : D} {st : Sto} {t : Ty} (ht : t = .tup ∨ t = .lst) (ta : tyOf (.val a) st = some t) (tb : tyOf (.val b) st = some t)
    (hi : ∀ ρ : En, ρ[0]? = some (some a) → ρ[1]? = some (some b) → 2 < ρ.length → dAnd (dBin gEq (dCB gLen (aCons (dV 0) (aNil))) (dCB gLen (aCons (dV 1) (aNil)))) (dCB gAll (aCons (dLc (iRange1 (aCons (dCB gLen (aCons (dV 0) (aNil))) (aNil))) (.nm 2) (tYes') (dCall (F__law_same n) (aCons (dBin gIx (dV 0) (dV 2)) (aCons (dBin gIx (dV 1) (dV 2)) (aNil)))) [2]) (aNil))) ρ st = .ok (.val (.bl true)) st) :
    F__law_same (n + 1) [a, b] st = .ok (.val (.bl true)) st := by
  have h := hi [some a, some b, none, none] rfl rfl (by simp)
  unfold F__law_same dFn
  rw [show (([a, b] : List D).map some ++ List.replicate (4 - ([a, b] : List D).length) none) = [some a, some b, none, none] from rfl]
  rw [ev_seq, ev_sif]
  have ht1 : (tOr' (tAnd' (tTru (dCB gIsi (aCons (dV 0) (aCons (dC (.ty .tup)) (aNil))))) (tTru (dCB gIsi (aCons (dV 1) (aCons (dC (.ty .tup)) (aNil)))))) (tAnd' (tTru (dCB gIsi (aCons (dV 0) (aCons (dC (.ty .lst)) (aNil))))) (tTru (dCB gIsi (aCons (dV 1) (aCons (dC (.ty .lst)) (aNil))))))) [some a, some b, none, none] st = .ok true st := by
    rcases ht with ht | ht <;> subst ht <;> simp [ta, tb, isSub]
  rw [ht1, SO.of_ok, if_pos rfl, ev_ret, h, SO.of_ok, ev_then_rt]
  exact leave_same ..
theorem same_refl : ∀ (n : Nat) (d : D) (st : Sto), okay n d = true → F__law_same n [d, d] st = .ok (.val (.bl true)) st := by
  intro n
  induction n with
  | zero => intro d st h; cases h
  | succ n ih =>
    intro d st h
    cases d with
    | tup ds =>
      have h' : ds.length ≤ 1000000 ∧ ∀ x ∈ ds, okay n x = true := by
        unfold okay at h
        rw [Bool.and_eq_true, List.all_eq_true] at h
        exact ⟨of_decide_eq_true h.1, h.2⟩
      refine same_seq (.inl rfl) rfl rfl fun ρ r0 r1 r2 => same_items (gLen_tup ds st) (gLen_tup ds st) rfl h'.1 (gIx_tupN st) (gIx_tupN st) (fun i d e e1 e2 => ?_) ρ r0 r1 r2
      rw [e1] at e2; cases e2
      exact ih d st (h'.2 d (List.mem_of_getElem? e1))
    | non => exact same_atom st (.inl rfl)
    | bl b => exact same_atom st (.inr (.inl ⟨b, rfl⟩))
    | int b => exact same_atom st (.inr (.inr (.inl ⟨b, rfl⟩)))
    | str b => exact same_atom st (.inr (.inr (.inr ⟨b, rfl⟩)))
    | ty _ => cases h
    | rol _ => cases h
    | kt _ => cases h
    | loc _ => cases h
end MM
namespace MM
open PySem PySem.Spec PyProof.Rows L2
/-! ### what is data -/
@[simp] theorem lim_non (n : Nat) : D.lim .non n = true := by unfold D.lim; rfl
@[simp] theorem lim_bl (b : Bool) (n : Nat) : D.lim (.bl b) n = true := by unfold D.lim; rfl
@[simp] theorem lim_int (b : Int) (n : Nat) : D.lim (.int b) n = true := by unfold D.lim; rfl
@[simp] theorem lim_str (b : Str) (n : Nat) : D.lim (.str b) n = true := by unfold D.lim; rfl
@[simp] theorem lim_loc (k : Nat) (n : Nat) : D.lim (.loc k) n = decide (k < n) := by unfold D.lim; rfl
@[simp] theorem lim_tup (ds : List D) (n : Nat) : D.lim (.tup ds) n = D.lims ds n := by simp only [D.lim]
@[simp] theorem lim_kt (ds : List D) (n : Nat) : D.lim (.kt ds) n = D.lims ds n := by simp only [D.lim]
@[simp] theorem lim_rol (ds : List D) (n : Nat) : D.lim (.rol ds) n = D.lims ds n := by simp only [D.lim]
@[simp] theorem lims_nil (n : Nat) : D.lims [] n = true := by unfold D.lims; rfl
@[simp] theorem lims_cons (d : D) (ds : List D) (n : Nat) : D.lims (d :: ds) n = (d.lim n && D.lims ds n) := by rw [D.lims]
@[simp] theorem lims_append (ds es : List D) (n : Nat) : D.lims (ds ++ es) n = (D.lims ds n && D.lims es n) := by
  induction ds with
  | nil => simp
  | cons d ds ih => simp [ih, Bool.and_assoc]
theorem lims_all (ds : List D) (n : Nat) : D.lims ds n = ds.all fun d => d.lim n := by
  induction ds with
  | nil => simp
  | cons d ds ih => simp [ih]
@[simp] theorem olim_lst (ds : List D) (n : Nat) : O.lim (.lst ds) n = D.lims ds n := rfl
class Enc (α : Type) where
  enc : α → D
  lim : ∀ a n, (enc a).lim n = true
open Enc (enc)
@[simp] theorem lim_enc {α : Type} [Enc α] (a : α) (n : Nat) : (enc a).lim n = true := Enc.lim a n
@[simp] theorem lims_enc {α : Type} [Enc α] (l : List α) (n : Nat) : D.lims (l.map enc) n = true := by
  rw [lims_all]
  simp
theorem lims_map {α : Type} (f : α → D) (l : List α) (n : Nat) (h : ∀ a ∈ l, (f a).lim n = true) : D.lims (l.map f) n = true := by
  rw [lims_all]
  simpa using h
theorem enc_loc {α : Type} [Enc α] (a : α) (k : Nat) : (enc a : D) ≠ .loc k := by
  intro h
  have := Enc.lim a 0
  rw [h] at this
  simp at this
instance : Enc Int := ⟨.int, fun _ _ => by simp⟩
instance : Enc Nat := ⟨fun n => .int n, fun _ _ => by simp⟩
instance : Enc Bool := ⟨.bl, fun _ _ => by simp⟩
instance : Enc Str := ⟨.str, fun _ _ => by simp⟩
instance {α : Type} [Enc α] : Enc (List α) := ⟨fun l => .tup (l.map enc), fun _ _ => by simp⟩
instance {α β : Type} [Enc α] [Enc β] : Enc (α × β) := ⟨fun p => .tup [enc p.1, enc p.2], fun _ _ => by simp⟩
instance {α : Type} [Enc α] : Enc (Option α) := ⟨fun o => match o with | none => .non | some a => enc a, fun o n => by cases o <;> simp⟩
@[simp] theorem enc_int (i : Int) : (enc i : D) = .int i := id rfl
@[simp] theorem enc_nat (i : Nat) : (enc i : D) = .int i := id rfl
@[simp] theorem enc_bool (i : Bool) : (enc i : D) = .bl i := id rfl
@[simp] theorem enc_str (i : Str) : (enc i : D) = .str i := id rfl
@[simp] theorem enc_list {α : Type} [Enc α] (l : List α) : (enc l : D) = .tup (l.map enc) := id rfl
@[simp] theorem enc_pair {α β : Type} [Enc α] [Enc β] (p : α × β) : (enc p : D) = .tup [enc p.1, enc p.2] := id rfl
@[simp] theorem enc_none {α : Type} [Enc α] : (enc (none : Option α) : D) = .non := id rfl
@[simp] theorem enc_some {α : Type} [Enc α] (a : α) : (enc (some a) : D) = enc a := id rfl
theorem encF_enc (p : Fr) : encF p = enc p := rfl

/-! ### a store and what was put behind it -/
@[simp] theorem getP0 (st l : Sto) : (st ++ l)[st.length]? = l[0]? := by rw [List.getElem?_append_right (Nat.le_refl _), Nat.sub_self]
@[simp] theorem getPk (st l : Sto) (k : Nat) : (st ++ l)[st.length + k]? = l[k]? := by rw [List.getElem?_append_right (by omega), Nat.add_sub_cancel_left]
@[simp] theorem setP0 (st l : Sto) (o : O) : (st ++ l).set st.length o = st ++ l.set 0 o := by rw [List.set_append_right _ _ (Nat.le_refl _), Nat.sub_self]
@[simp] theorem setPk (st l : Sto) (k : Nat) (o : O) : (st ++ l).set (st.length + k) o = st ++ l.set k o := by rw [List.set_append_right _ _ (by omega), Nat.add_sub_cancel_left]
theorem getPl {st l : Sto} {i : Nat} (h : i < st.length) : (st ++ l)[i]? = st[i]? := List.getElem?_append_left h
theorem setPl {st l : Sto} {i : Nat} {o : O} (h : i < st.length) : (st ++ l).set i o = st.set i o ++ l := List.set_append_left _ _ h
theorem cutOk_app (st l : Sto) : CutOk st (st ++ l) := cutOk_take (by simp)
theorem leave_app {st l : Sto} {d : D} (hn : ∀ k, d ≠ .loc k) (h : d.lim st.length = true) : leave st (.val d) (st ++ l) = .ok (.val d) st := by
  rw [leave_data hn (cutOk_app st l) h]
  simp
theorem leave_enc {α : Type} [Enc α] {st l : Sto} (a : α) : leave st (.val (enc a)) (st ++ l) = .ok (.val (enc a)) st := leave_app (enc_loc a) (by simp)
@[simp] theorem leave_int (st l : Sto) (i : Int) : leave st (.val (.int i)) (st ++ l) = .ok (.val (.int i)) st := leave_enc i
@[simp] theorem leave_bl (st l : Sto) (i : Bool) : leave st (.val (.bl i)) (st ++ l) = .ok (.val (.bl i)) st := leave_enc i
@[simp] theorem leave_str (st l : Sto) (i : Str) : leave st (.val (.str i)) (st ++ l) = .ok (.val (.str i)) st := leave_enc i
@[simp] theorem leave_non (st l : Sto) : leave st (.val .non) (st ++ l) = .ok (.val .non) st := leave_app (fun k h => by cases h) (by simp)
@[simp] theorem leave_tupE {α : Type} [Enc α] (st l : Sto) (a : List α) : leave st (.val (.tup (a.map enc))) (st ++ l) = .ok (.val (.tup (a.map enc))) st := leave_enc a
theorem leave_tup {st l : Sto} {ds : List D} (h : D.lims ds st.length = true) : leave st (.val (.tup ds)) (st ++ l) = .ok (.val (.tup ds)) st := leave_app (fun k h => by cases h) (by simpa using h)
theorem leave_appL {st l : Sto} {k : Nat} {ds : List D} (e : l[k]? = some (.lst ds)) (h : D.lims ds st.length = true) : leave st (.val (.loc (st.length + k))) (st ++ l) = .ok (.new (.lst ds)) st := by
  rw [leave_list (o := .lst ds) (by omega) (by rw [getPk]; exact e) (cutOk_app st l) h]
  simp
theorem leave_appN {st l : Sto} {ds : List D} (h : D.lims ds st.length = true) : leave st (.new (.lst ds)) (st ++ l) = .ok (.new (.lst ds)) st := by
  rw [leave_new (o := .lst ds) (cutOk_app st l) h]
  simp
/-- how far an environment knows places -/
def EnvB : En → Nat → Bool
  | [], _ => true
  | none :: ρ, n => EnvB ρ n
  | some d :: ρ, n => d.lim n && EnvB ρ n
@[simp] theorem envB_nil (n : Nat) : EnvB [] n = true := id rfl
@[simp] theorem envB_none (ρ : En) (n : Nat) : EnvB (none :: ρ) n = EnvB ρ n := id rfl
@[simp] theorem envB_some (d : D) (ρ : En) (n : Nat) : EnvB (some d :: ρ) n = (d.lim n && EnvB ρ n) := id rfl
theorem EnvB.get : ∀ {ρ : En} {n : Nat}, EnvB ρ n = true → ∀ (i : Nat) d, ρ[i]? = some (some d) → d.lim n = true
  | none :: ρ, n, h, 0, d, e => by simp at e
  | none :: ρ, n, h, i + 1, d, e => EnvB.get (ρ := ρ) h i d (by simpa using e)
  | some x :: ρ, n, h, 0, d, e => by
    simp at e; subst e
    simp at h
    exact h.1
  | some x :: ρ, n, h, i + 1, d, e => by
    simp at h
    exact EnvB.get (ρ := ρ) h.2 i d (by simpa using e)
theorem tidy_app {ks : List Nat} {ρ0 ρ : En} {st l0 l1 : Sto} (h : l1.length = l0.length) : tidy ks ρ0 (st ++ l0) ρ (st ++ l1) = (wipeE ρ ks, st ++ l1) := tidy_len (by simp [h])
theorem tidy_app_cut {ks : List Nat} {ρ0 ρ : En} {st l0 l1 l2 : Sto} (h : l1.length = l0.length) (hl : (l1.all fun o => o.lim (st.length + l0.length)) = true) (he : EnvB (wipeE ρ ks) (st.length + l0.length) = true) :
    tidy ks ρ0 (st ++ l0) ρ (st ++ (l1 ++ l2)) = (wipeE ρ ks, st ++ l1) := by
  rw [tidy_cut]
  · rw [← List.append_assoc, List.take_append_of_le_length (by simp [h]), List.take_of_length_le (by simp [h])]
  · refine ⟨by simp [h], fun i o hi e => ?_⟩
    by_cases hs : i < st.length
    · rw [getPl hs] at e ⊢
      exact .inl e
    · rw [List.length_append] at hi
      rw [List.getElem?_append_right (by omega), List.getElem?_append_left (by omega)] at e
      rw [List.length_append]
      exact .inr (List.all_eq_true.mp hl o (List.mem_of_getElem? e))
  · intro i d e
    rw [List.length_append]
    exact .inr (EnvB.get he i d e)

/-! ### turns, as lists and numbers go -/
theorem ups_getD (lo : Int) (n j : Nat) (d : D) (h : (ups lo n)[j]? = some d) : j < n ∧ d = .int (lo + (j : Nat)) := by
  have hj : j < (ups lo n).length := (List.getElem?_eq_some_iff.mp h).1
  rw [ups_len] at hj
  unfold ups at h
  rw [List.getElem?_map, List.getElem?_range hj] at h
  exact ⟨hj, (Option.some.inj h).symm⟩
theorem forL_range {chk : Chk} {tg : Tg} {body : DS} {ks : List Nat} {n : Nat} {ρ : En} {st : Sto} (P : Nat → En → Sto → Prop) (h0 : P 0 ρ st)
    (hs : ∀ j, j < n → ∀ ρ st, P j ρ st → chk st ∧ ∃ ρ1, bindT tg (.int (j : Nat)) ρ = some ρ1 ∧ ∃ ρ2 st2, (body ρ1 st = .nx ρ2 st2 ∨ body ρ1 st = .ct ρ2 st2) ∧ P (j + 1) (tidy ks ρ1 st ρ2 st2).1 (tidy ks ρ1 st ρ2 st2).2)
    (hc : ∀ ρ st, P n ρ st → chk st) : ∃ ρ' st', forL chk tg body ks (ups 0 n) ρ st = .nx ρ' st' ∧ P n ρ' st' := by
  have h := forL_ind (chk := chk) (tg := tg) (body := body) (ks := ks) P (items := ups 0 n) (i := 0) (ρ := ρ) (st := st) h0 (fun j d ρ st e p => by
    obtain ⟨hj, hd⟩ := ups_getD _ _ _ _ e
    rw [Int.zero_add] at hd
    subst hd
    rw [Nat.zero_add] at p ⊢
    exact hs j hj ρ st p) (fun ρ st p => hc ρ st (by simpa [ups_len] using p))
  simpa [ups_len] using h
theorem forL_lst {α : Type} {chk : Chk} {tg : Tg} {body : DS} {ks : List Nat} {ρ : En} {st : Sto} (f : α → D) (items : List α) (P : List α → En → Sto → Prop) (h0 : P [] ρ st)
    (hs : ∀ pre a, (∃ post, items = pre ++ a :: post) → ∀ ρ st, P pre ρ st → chk st ∧ ∃ ρ1, bindT tg (f a) ρ = some ρ1 ∧ ∃ ρ2 st2, (body ρ1 st = .nx ρ2 st2 ∨ body ρ1 st = .ct ρ2 st2) ∧ P (pre ++ [a]) (tidy ks ρ1 st ρ2 st2).1 (tidy ks ρ1 st ρ2 st2).2)
    (hc : ∀ ρ st, P items ρ st → chk st) : ∃ ρ' st', forL chk tg body ks (items.map f) ρ st = .nx ρ' st' ∧ P items ρ' st' := by
  have h := forL_ind (chk := chk) (tg := tg) (body := body) (ks := ks) (fun i => P (items.take i)) (items := items.map f) (i := 0) (ρ := ρ) (st := st) h0 (fun j d ρ st e p => by
    rw [List.getElem?_map] at e
    cases ha : items[j]? with
    | none => rw [ha] at e; cases e
    | some a =>
      rw [ha] at e
      cases e
      have hj := (List.getElem?_eq_some_iff.mp ha).1
      have hsplit : items = items.take j ++ a :: items.drop (j + 1) := by
        have e1 := (List.take_append_drop j items).symm
        rw [List.drop_eq_getElem_cons hj] at e1
        rw [← (List.getElem?_eq_some_iff.mp ha).2]
        exact e1
      have htake : items.take (j + 1) = items.take j ++ [a] := by rw [List.take_succ, ha]; rfl
      rw [Nat.zero_add] at p ⊢
      show _ ∧ ∃ ρ1, _ ∧ ∃ ρ2 st2, _ ∧ P (items.take (j + 1)) _ _
      rw [htake]
      exact hs _ a ⟨_, hsplit⟩ ρ st p) (fun ρ st p => hc ρ st (by
        have p' : P (items.take (0 + (items.map f).length)) ρ st := p
        simpa using p'))
  obtain ⟨ρ', st', h1, h2⟩ := h
  exact ⟨ρ', st', h1, by
    have p' : P (items.take (0 + (items.map f).length)) ρ' st' := h2
    simpa using p'⟩
/-- a comprehension over typed items -/
theorem lcL_enc {α : Type} {chk : Chk} {tg : Tg} {el : DE} {ρ : En} {st : Sto} (f : α → D) (g : α → D) (items : List α) (hchk : chk st) (hl : items.length ≤ 1000000)
    (h : ∀ a ∈ items, ∃ ρ1, bindT tg (f a) ρ = some ρ1 ∧ el ρ1 st = .ok (.val (g a)) st) : lcL chk tg tYes' el ρ (items.map f) st [] = .ok (items.map g) st := by
  have go : ∀ (items : List α) (acc : List D), acc.length + items.length ≤ 1000000 → (∀ a ∈ items, ∃ ρ1, bindT tg (f a) ρ = some ρ1 ∧ el ρ1 st = .ok (.val (g a)) st) → lcL chk tg tYes' el ρ (items.map f) st acc = .ok (acc ++ items.map g) st := by
    intro items
    induction items with
    | nil => intro acc _ _; unfold lcL; simp [hchk]
    | cons a l ih =>
      intro acc hl h
      obtain ⟨ρ1, h1, h2⟩ := h a List.mem_cons_self
      rw [List.length_cons] at hl
      rw [List.map_cons]
      unfold lcL
      rw [if_pos hchk, h1]
      simp only [ev_tyes, h2, toD_val]
      rw [if_pos (by omega), ih (acc ++ [g a]) (by simp; omega) (fun x hx => h x (List.mem_cons_of_mem _ hx))]
      simp
  simpa using go items [] (by simpa using hl) h
theorem lcL_encF {α : Type} {chk : Chk} {tg : Tg} {tt : DT} {el : DE} {ρ : En} {st : Sto} (f : α → D) (c : α → Bool) (g : α → D) (items : List α) (hchk : chk st) (hl : items.length ≤ 1000000)
    (h : ∀ a ∈ items, ∃ ρ1, bindT tg (f a) ρ = some ρ1 ∧ tt ρ1 st = .ok (c a) st ∧ (c a = true → el ρ1 st = .ok (.val (g a)) st)) : lcL chk tg tt el ρ (items.map f) st [] = .ok ((items.filter c).map g) st := by
  have go : ∀ (items : List α) (acc : List D), acc.length + items.length ≤ 1000000 → (∀ a ∈ items, ∃ ρ1, bindT tg (f a) ρ = some ρ1 ∧ tt ρ1 st = .ok (c a) st ∧ (c a = true → el ρ1 st = .ok (.val (g a)) st)) → lcL chk tg tt el ρ (items.map f) st acc = .ok (acc ++ (items.filter c).map g) st := by
    intro items
    induction items with
    | nil => intro acc _ _; unfold lcL; simp [hchk]
    | cons a l ih =>
      intro acc hl h
      obtain ⟨ρ1, h1, h2, h3⟩ := h a List.mem_cons_self
      rw [List.length_cons] at hl
      rw [List.map_cons]
      unfold lcL
      rw [if_pos hchk, h1]
      cases hc : c a with
      | false =>
        rw [hc] at h2
        simp only [h2]
        rw [ih acc (by omega) (fun x hx => h x (List.mem_cons_of_mem _ hx)), List.filter_cons_of_neg (by rw [hc]; decide)]
      | true =>
        rw [hc] at h2
        simp only [h2, h3 hc, toD_val]
        rw [if_pos (by omega), ih (acc ++ [g a]) (by simp; omega) (fun x hx => h x (List.mem_cons_of_mem _ hx)), List.filter_cons_of_pos hc]
        simp
  simpa using go items [] (by simpa using hl) h
theorem ups_range (n : Nat) : ups 0 n = (List.range n).map fun i => D.int (i : Nat) := by
  unfold ups
  simp
theorem enums_map {α : Type} (f : α → D) (l : List α) (k : Nat) : enums k (l.map f) = (l.zipIdx k).map fun p => .tup [.int p.2, f p.1] := by
  induction l generalizing k with
  | nil => rfl
  | cons a l ih => simp [enums, ih]
theorem gIx_enc {α : Type} [Enc α] {l : List α} {i : Nat} {a : α} (st : Sto) (h : l[i]? = some a) : gIx (.val (.tup (l.map enc))) (.val (.int (i : Nat))) st = .ok (.val (enc a)) st :=
  gIx_tupN st i _ (by rw [List.getElem?_map, h]; rfl)
theorem gIx_encI {α : Type} [Enc α] {l : List α} {i : Int} {a : α} (st : Sto) (h0 : 0 ≤ i) (h : l[i.toNat]? = some a) : gIx (.val (.tup (l.map enc))) (.val (.int i)) st = .ok (.val (enc a)) st :=
  gIx_tup st h0 (by rw [List.getElem?_map, h]; rfl)
end MM
namespace MM
open PySem PySem.Spec PyProof.Rows L2
open Enc (enc)
/-- a turn that ends well -/
def Turn (N : En → Sto → Prop) (o : SO) : Prop := ∃ ρ2 st2, (o = .nx ρ2 st2 ∨ o = .ct ρ2 st2) ∧ N ρ2 st2
theorem Turn.nx {N : En → Sto → Prop} {ρ : En} {st : Sto} (h : N ρ st) : Turn N (.nx ρ st) := ⟨ρ, st, .inl rfl, h⟩
theorem Turn.ct {N : En → Sto → Prop} {ρ : En} {st : Sto} (h : N ρ st) : Turn N (.ct ρ st) := ⟨ρ, st, .inr rfl, h⟩
theorem Turn.eq {N : En → Sto → Prop} {ρ : En} {st : Sto} {o : SO} (e : o = .nx ρ st) (h : N ρ st) : Turn N o := ⟨ρ, st, .inl e, h⟩
section
variable {α : Type} {chk : Chk} {tg : Tg} {body : DS} {ks : List Nat} {n : Nat} {ρ : En} {st st1 : Sto} {k : En → Sto → SO} {o : SO} {N : En → Sto → Prop} {src : DI} {fa : DA}
/-- for x in range(n), then more -/
theorem for_range (P : Nat → En → Sto → Prop) (hr : fa ρ st = .ok [.val (.int (n : Nat))] st1) (hn : n < 1000000000000) (h0 : P 0 ρ st1)
    (hs : ∀ j, j < n → ∀ ρ st, P j ρ st → ∃ ρ1, bindT tg (.int (j : Nat)) ρ = some ρ1 ∧ ∀ N : En → Sto → Prop, (∀ ρ2 st2, P (j + 1) (tidy ks ρ1 st ρ2 st2).1 (tidy ks ρ1 st ρ2 st2).2 → N ρ2 st2) → Turn N (body ρ1 st)) :
    ∃ ρ' st', sFor (iRange1 fa) tg body ks ρ st = .nx ρ' st' ∧ P n ρ' st' := by
  obtain ⟨ρ', st', h1, h2⟩ := forL_range (chk := fun _ => True) (tg := tg) (body := body) (ks := ks) P h0 (fun j hj ρ st p => ⟨trivial, by obtain ⟨ρ1, e, t⟩ := hs j hj ρ st p; exact ⟨ρ1, e, t _ fun _ _ h => h⟩⟩) (fun _ _ _ => trivial)
  refine ⟨ρ', st', ?_, h2⟩
  rw [ev_for, iRange1_nat hr hn, SO.of_ok]
  exact h1
theorem for_range_then (P : Nat → En → Sto → Prop) (hr : fa ρ st = .ok [.val (.int (n : Nat))] st1) (hn : n < 1000000000000) (h0 : P 0 ρ st1)
    (hs : ∀ j, j < n → ∀ ρ st, P j ρ st → ∃ ρ1, bindT tg (.int (j : Nat)) ρ = some ρ1 ∧ ∀ N : En → Sto → Prop, (∀ ρ2 st2, P (j + 1) (tidy ks ρ1 st ρ2 st2).1 (tidy ks ρ1 st ρ2 st2).2 → N ρ2 st2) → Turn N (body ρ1 st))
    (he : ∀ ρ st, P n ρ st → k ρ st = o) : (sFor (iRange1 fa) tg body ks ρ st).then k = o := by
  obtain ⟨ρ', st', h1, h2⟩ := for_range P hr hn h0 hs
  rw [h1]
  exact he _ _ h2
theorem for_range_turn (P : Nat → En → Sto → Prop) (hr : fa ρ st = .ok [.val (.int (n : Nat))] st1) (hn : n < 1000000000000) (h0 : P 0 ρ st1)
    (hs : ∀ j, j < n → ∀ ρ st, P j ρ st → ∃ ρ1, bindT tg (.int (j : Nat)) ρ = some ρ1 ∧ ∀ N : En → Sto → Prop, (∀ ρ2 st2, P (j + 1) (tidy ks ρ1 st ρ2 st2).1 (tidy ks ρ1 st ρ2 st2).2 → N ρ2 st2) → Turn N (body ρ1 st))
    (he : ∀ ρ st, P n ρ st → Turn N (k ρ st)) : Turn N ((sFor (iRange1 fa) tg body ks ρ st).then k) := by
  obtain ⟨ρ', st', h1, h2⟩ := for_range P hr hn h0 hs
  rw [h1]
  exact he _ _ h2
theorem for_range_turn0 (P : Nat → En → Sto → Prop) (hr : fa ρ st = .ok [.val (.int (n : Nat))] st1) (hn : n < 1000000000000) (h0 : P 0 ρ st1)
    (hs : ∀ j, j < n → ∀ ρ st, P j ρ st → ∃ ρ1, bindT tg (.int (j : Nat)) ρ = some ρ1 ∧ ∀ N : En → Sto → Prop, (∀ ρ2 st2, P (j + 1) (tidy ks ρ1 st ρ2 st2).1 (tidy ks ρ1 st ρ2 st2).2 → N ρ2 st2) → Turn N (body ρ1 st))
    (he : ∀ ρ st, P n ρ st → N ρ st) : Turn N (sFor (iRange1 fa) tg body ks ρ st) := by
  obtain ⟨ρ', st', h1, h2⟩ := for_range P hr hn h0 hs
  exact ⟨ρ', st', .inl h1, he _ _ h2⟩
/-- for x in what is typed -/
theorem for_lst (f : α → D) (items : List α) (P : List α → En → Sto → Prop) (hr : src ρ st = .ok (items.map f, chk) st1) (h0 : P [] ρ st1)
    (hs : ∀ pre a, (∃ post, items = pre ++ a :: post) → ∀ ρ st, P pre ρ st → chk st ∧ ∃ ρ1, bindT tg (f a) ρ = some ρ1 ∧ ∀ N : En → Sto → Prop, (∀ ρ2 st2, P (pre ++ [a]) (tidy ks ρ1 st ρ2 st2).1 (tidy ks ρ1 st ρ2 st2).2 → N ρ2 st2) → Turn N (body ρ1 st))
    (hc : ∀ ρ st, P items ρ st → chk st) : ∃ ρ' st', sFor src tg body ks ρ st = .nx ρ' st' ∧ P items ρ' st' := by
  obtain ⟨ρ', st', h1, h2⟩ := forL_lst (chk := chk) (tg := tg) (body := body) (ks := ks) f items P h0 (fun pre a hp ρ st p => ⟨(hs pre a hp ρ st p).1, by obtain ⟨ρ1, e, t⟩ := (hs pre a hp ρ st p).2; exact ⟨ρ1, e, t _ fun _ _ h => h⟩⟩) hc
  refine ⟨ρ', st', ?_, h2⟩
  rw [ev_for, hr, SO.of_ok]
  exact h1
theorem for_lst_then (f : α → D) (items : List α) (P : List α → En → Sto → Prop) (hr : src ρ st = .ok (items.map f, chk) st1) (h0 : P [] ρ st1)
    (hs : ∀ pre a, (∃ post, items = pre ++ a :: post) → ∀ ρ st, P pre ρ st → chk st ∧ ∃ ρ1, bindT tg (f a) ρ = some ρ1 ∧ ∀ N : En → Sto → Prop, (∀ ρ2 st2, P (pre ++ [a]) (tidy ks ρ1 st ρ2 st2).1 (tidy ks ρ1 st ρ2 st2).2 → N ρ2 st2) → Turn N (body ρ1 st))
    (hc : ∀ ρ st, P items ρ st → chk st) (he : ∀ ρ st, P items ρ st → k ρ st = o) : (sFor src tg body ks ρ st).then k = o := by
  obtain ⟨ρ', st', h1, h2⟩ := for_lst f items P hr h0 hs hc
  rw [h1]
  exact he _ _ h2
theorem for_lst_turn (f : α → D) (items : List α) (P : List α → En → Sto → Prop) (hr : src ρ st = .ok (items.map f, chk) st1) (h0 : P [] ρ st1)
    (hs : ∀ pre a, (∃ post, items = pre ++ a :: post) → ∀ ρ st, P pre ρ st → chk st ∧ ∃ ρ1, bindT tg (f a) ρ = some ρ1 ∧ ∀ N : En → Sto → Prop, (∀ ρ2 st2, P (pre ++ [a]) (tidy ks ρ1 st ρ2 st2).1 (tidy ks ρ1 st ρ2 st2).2 → N ρ2 st2) → Turn N (body ρ1 st))
    (hc : ∀ ρ st, P items ρ st → chk st) (he : ∀ ρ st, P items ρ st → Turn N (k ρ st)) : Turn N ((sFor src tg body ks ρ st).then k) := by
  obtain ⟨ρ', st', h1, h2⟩ := for_lst f items P hr h0 hs hc
  rw [h1]
  exact he _ _ h2
theorem for_lst_turn0 (f : α → D) (items : List α) (P : List α → En → Sto → Prop) (hr : src ρ st = .ok (items.map f, chk) st1) (h0 : P [] ρ st1)
    (hs : ∀ pre a, (∃ post, items = pre ++ a :: post) → ∀ ρ st, P pre ρ st → chk st ∧ ∃ ρ1, bindT tg (f a) ρ = some ρ1 ∧ ∀ N : En → Sto → Prop, (∀ ρ2 st2, P (pre ++ [a]) (tidy ks ρ1 st ρ2 st2).1 (tidy ks ρ1 st ρ2 st2).2 → N ρ2 st2) → Turn N (body ρ1 st))
    (hc : ∀ ρ st, P items ρ st → chk st) (he : ∀ ρ st, P items ρ st → N ρ st) : Turn N (sFor src tg body ks ρ st) := by
  obtain ⟨ρ', st', h1, h2⟩ := for_lst f items P hr h0 hs hc
  exact ⟨ρ', st', .inl h1, he _ _ h2⟩
theorem while_ok {c : DT} (P : Nat → En → Sto → Prop) (Q : En → Sto → Prop) (hs : ∀ m ρ st, P m ρ st → ∃ b st1, c ρ st = .ok b st1 ∧ (b = false → Q ρ st1) ∧ (b = true → ∀ N : En → Sto → Prop, (∀ ρ2 st2, (∃ m', m' < m ∧ P m' (tidy ks ρ st1 ρ2 st2).1 (tidy ks ρ st1 ρ2 st2).2) → N ρ2 st2) → Turn N (body ρ st1))) :
    ∀ (m : Nat) {ρ : En} {st : Sto}, P m ρ st → ∃ ρ' st', sWhile c body ks ρ st = .nx ρ' st' ∧ Q ρ' st' := by
  have go : ∀ (z m : Nat), m < z → ∀ ρ st, P m ρ st → ∃ ρ' st', whileN c body ks z ρ st = .nx ρ' st' ∧ Q ρ' st' := by
    intro z
    induction z with
    | zero => intro m h; omega
    | succ z ih =>
      intro m hm ρ st p
      obtain ⟨b, st1, hc, hf, ht⟩ := hs m ρ st p
      unfold whileN
      rw [hc, SO.of_ok]
      cases b with
      | false => exact ⟨ρ, st1, by simp, hf rfl⟩
      | true =>
        obtain ⟨ρ2, st2, ho, m', hm', p'⟩ := ht rfl _ fun _ _ h => h
        obtain ⟨ρ', st', e, q⟩ := ih m' (by omega) _ _ p'
        refine ⟨ρ', st', ?_, q⟩
        rcases ho with ho | ho
        · simp [ho, e]
        · simp [ho, e]
  intro m ρ st p
  obtain ⟨ρ', st', e, q⟩ := go (m + 1) m (by omega) ρ st p
  exact ⟨ρ', st', sWhile_of e (by intro z; cases z), q⟩
theorem while_then {c : DT} (P : Nat → En → Sto → Prop) (m : Nat) (h0 : P m ρ st) (hs : ∀ m ρ st, P m ρ st → ∃ b st1, c ρ st = .ok b st1 ∧ (b = false → k ρ st1 = o) ∧ (b = true → ∀ N : En → Sto → Prop, (∀ ρ2 st2, (∃ m', m' < m ∧ P m' (tidy ks ρ st1 ρ2 st2).1 (tidy ks ρ st1 ρ2 st2).2) → N ρ2 st2) → Turn N (body ρ st1))) :
    (sWhile c body ks ρ st).then k = o := by
  obtain ⟨ρ', st', e, q⟩ := while_ok P (fun ρ st => k ρ st = o) hs m h0
  rw [e]
  exact q
theorem while_turn {c : DT} (P : Nat → En → Sto → Prop) (m : Nat) (h0 : P m ρ st) (hs : ∀ m ρ st, P m ρ st → ∃ b st1, c ρ st = .ok b st1 ∧ (b = false → Turn N (k ρ st1)) ∧ (b = true → ∀ N : En → Sto → Prop, (∀ ρ2 st2, (∃ m', m' < m ∧ P m' (tidy ks ρ st1 ρ2 st2).1 (tidy ks ρ st1 ρ2 st2).2) → N ρ2 st2) → Turn N (body ρ st1))) :
    Turn N ((sWhile c body ks ρ st).then k) := by
  obtain ⟨ρ', st', e, q⟩ := while_ok P (fun ρ st => Turn N (k ρ st)) hs m h0
  rw [e]
  exact q
end
/-! ### comprehensions, whole -/
theorem lc_eq {α : Type} {src : DI} {tg : Tg} {el : DE} {ws : List Nat} {ρ : En} {st st1 : Sto} {chk : Chk} (f : α → D) (g : α → D) (items : List α) (hr : src ρ st = .ok (items.map f, chk) st1) (hchk : chk st1) (hl : items.length ≤ 1000000)
    (h : ∀ a ∈ items, ∃ ρ1, bindT tg (f a) (wipeE ρ ws) = some ρ1 ∧ el ρ1 st1 = .ok (.val (g a)) st1) : dLc src tg tYes' el ws ρ st = .ok (.new (.lst (items.map g))) st1 := by
  rw [ev_lc, hr, Out.bind_ok, lcL_enc f g items hchk hl h, Out.bind_ok]
theorem lc_eqF {α : Type} {src : DI} {tg : Tg} {tt : DT} {el : DE} {ws : List Nat} {ρ : En} {st st1 : Sto} {chk : Chk} (f : α → D) (c : α → Bool) (g : α → D) (items : List α) (hr : src ρ st = .ok (items.map f, chk) st1) (hchk : chk st1) (hl : items.length ≤ 1000000)
    (h : ∀ a ∈ items, ∃ ρ1, bindT tg (f a) (wipeE ρ ws) = some ρ1 ∧ tt ρ1 st1 = .ok (c a) st1 ∧ (c a = true → el ρ1 st1 = .ok (.val (g a)) st1)) : dLc src tg tt el ws ρ st = .ok (.new (.lst ((items.filter c).map g))) st1 := by
  rw [ev_lc, hr, Out.bind_ok, lcL_encF f c g items hchk hl h, Out.bind_ok]
@[simp] theorem bindT_nm (i : Nat) (d : D) (ρ : En) : bindT (.nm i) d ρ = some (ρ.set i (some d)) := id rfl
theorem dFn_rt {n : Nat} {body : DS} {ds : List D} {st st1 : Sto} {r : R} {o : Out R} (h : body (ds.map some ++ List.replicate (n - ds.length) none) st = .rt r st1) (hl : leave st r st1 = o) : dFn n body ds st = o := by
  unfold dFn
  rw [h]
  exact hl
theorem turn_of {N : En → Sto → Prop} {ρ : En} {st : Sto} (h : N ρ st) : Turn N (.nx ρ st) := Turn.nx h
/-! ### what is at a place, by looking there -/
section
variable (n : Nat) (st : Sto)
@[simp] theorem tyOf_locM : tyOf (.val (.loc n)) st = match st[n]? with
  | some (.lst _) => some .lst
  | some (.dk _) => some .dic
  | some (.dt _) => some .dic
  | none => none := by
  simp only [tyOf]
  all_goals rcases h : st[n]? with _ | o
  all_goals first | rfl | (cases o <;> rfl)
@[simp] theorem asLr_locM : asLr (.val (.loc n)) st = match st[n]? with
  | some (.lst ds) => some ds
  | _ => none := by
  simp only [asLr, asL]
  all_goals rcases h : st[n]? with _ | o
  all_goals first | rfl | (cases o <;> rfl)
@[simp] theorem gAppend_locM (d : D) : gAppend (.val (.loc n)) [.val d] st = match st[n]? with
  | some (.lst ds) => if ds.length < 1000000 then .ok (.val .non) (st.set n (.lst (ds ++ [d]))) else .bad
  | _ => .bad := by
  simp only [gAppend, toD_val]
  all_goals rcases h : st[n]? with _ | o
  all_goals first | rfl | (cases o <;> rfl)
@[simp] theorem gTuple_locM : gTuple [.val (.loc n)] st = match st[n]? with
  | some (.lst ds) => .ok (.val (.tup ds)) st
  | _ => .bad := by
  simp only [gTuple, asQ, asLr_locM]
  all_goals rcases h : st[n]? with _ | o
  all_goals first | rfl | (cases o <;> rfl)
@[simp] theorem gList_locM : gList [.val (.loc n)] st = match st[n]? with
  | some (.lst ds) => .ok (.new (.lst ds)) st
  | _ => .bad := by
  simp only [gList, asQ, asLr_locM]
  all_goals rcases h : st[n]? with _ | o
  all_goals first | rfl | (cases o <;> rfl)
@[simp] theorem gLen_locM : gLen [.val (.loc n)] st = match st[n]? with
  | some (.lst ds) => .ok (.val (.int ds.length)) st
  | some (.dk ds) => .ok (.val (.int ds.length)) st
  | some (.dt ds) => gLen [.val (.loc n)] st
  | none => .bad := by
  cases h : st[n]? with
  | none => simp [gLen, asDk, asDt, h]
  | some o => cases o <;> simp [gLen, asDk, asDt, h]
@[simp] theorem gExtend_new (es : List D) : gExtend (.val (.loc n)) [.new (.lst es)] st = match st[n]? with
  | some (.lst ds) => if ds.length + es.length < 1000000 then .ok (.val .non) (st.set n (.lst (ds ++ es))) else .bad
  | _ => .bad := by
  simp only [gExtend, asL_new]
  all_goals rcases h : st[n]? with _ | o
  all_goals first | rfl | (cases o <;> rfl)
end
theorem tidy_x {ks : List Nat} {ρ0 ρ : En} {st l0 l1 : Sto} (h : l0.length ≤ l1.length) (hl : ((l1.take l0.length).all fun o => o.lim (st.length + l0.length)) = true) (he : EnvB (wipeE ρ ks) (st.length + l0.length) = true) :
    tidy ks ρ0 (st ++ l0) ρ (st ++ l1) = (wipeE ρ ks, st ++ l1.take l0.length) := by
  have ha : (l1.take l0.length).length = l0.length := by simp [h]
  have := tidy_app_cut (ks := ks) (ρ0 := ρ0) (ρ := ρ) (st := st) (l2 := l1.drop l0.length) ha hl he
  rwa [List.take_append_drop] at this
theorem tidy_top {ks : List Nat} {ρ0 ρ : En} {st l : Sto} (he : EnvB (wipeE ρ ks) st.length = true) : tidy ks ρ0 st ρ (st ++ l) = (wipeE ρ ks, st) := by
  have := tidy_app_cut (ks := ks) (ρ0 := ρ0) (ρ := ρ) (st := st) (l0 := []) (l1 := []) (l2 := l) rfl rfl (by simpa using he)
  simpa using this
/-! ### a part that goes on -/
def Nx (M : En → Sto → Prop) (o : SO) : Prop := ∃ ρ st, o = .nx ρ st ∧ M ρ st
theorem Nx.nx {M : En → Sto → Prop} {ρ : En} {st : Sto} (h : M ρ st) : Nx M (.nx ρ st) := ⟨ρ, st, rfl, h⟩
theorem Nx.imp {M M' : En → Sto → Prop} {o : SO} (h : ∀ ρ st, M ρ st → M' ρ st) (x : Nx M o) : Nx M' o := by
  obtain ⟨ρ, st, e, m⟩ := x
  exact ⟨ρ, st, e, h ρ st m⟩
theorem then_G (G : SO → Prop) (M : En → Sto → Prop) {o : SO} {k : En → Sto → SO} (h : Nx M o) (hk : ∀ ρ st, M ρ st → G (k ρ st)) : G (o.then k) := by
  obtain ⟨ρ, st, e, m⟩ := h
  rw [e]
  exact hk ρ st m
end MM
namespace MM
open PySem PySem.Spec PyProof.Rows L2
open Enc (enc)
/-! ### what is equal -/
class EncP (α : Type) [Enc α] [DecidableEq α] where
  py : α → PyData
  dp : Nat
  to : ∀ a, toPy (enc a) = some (py a)
  lay : ∀ a, (py a).canLay0 = true
  dep : ∀ a, (py a).depth ≤ dp
  eqv : ∀ a b, PyData.eqv (py a) (py b) = decide (a = b)
section
variable {α β : Type} [Enc α] [DecidableEq α] [EncP α] [Enc β] [DecidableEq β] [EncP β]
theorem toPys_enc (l : List α) : toPys (l.map enc) = some (l.map EncP.py) := by
  induction l with
  | nil => simp [toPys]
  | cons a l ih => simp [toPys, EncP.to, ih]
theorem layAll_enc (l : List α) : PyData.canLayAll0 (l.map EncP.py) = true := by
  induction l with
  | nil => simp [PyData.canLayAll0]
  | cons a l ih => simp [PyData.canLayAll0, EncP.lay, ih]
theorem depAll_enc (l : List α) : PyData.depthAll (l.map EncP.py) ≤ EncP.dp α := by
  induction l with
  | nil => simp [PyData.depthAll]
  | cons a l ih =>
    simp [PyData.depthAll]
    exact Nat.max_le.mpr ⟨EncP.dep a, ih⟩
theorem eqvAll_enc (l m : List α) : PyData.eqvAll (l.map EncP.py) (m.map EncP.py) = decide (l = m) := by
  induction l generalizing m with
  | nil => cases m <;> simp [PyData.eqvAll]
  | cons a l ih =>
    cases m with
    | nil => simp [PyData.eqvAll]
    | cons b m => simp [PyData.eqvAll, EncP.eqv, ih]
instance : EncP Int := ⟨.int, 1, fun _ => by simp [toPy], fun _ => by simp [PyData.canLay0], fun _ => by simp [PyData.depth], fun a b => by simp [PyData.eqv]; rfl⟩
instance : EncP Nat := ⟨fun n => .int n, 1, fun _ => by simp [toPy], fun _ => by simp [PyData.canLay0], fun _ => by simp [PyData.depth], fun a b => by
  simp only [PyData.eqv]
  rw [Bool.eq_iff_iff]
  simp
  omega⟩
instance : EncP Bool := ⟨.bool, 1, fun _ => by simp [toPy], fun _ => by simp [PyData.canLay0], fun _ => by simp [PyData.depth], fun a b => by simp [PyData.eqv]; rfl⟩
instance : EncP (List α) := ⟨fun l => .tuple (l.map EncP.py), EncP.dp α + 1, fun l => by simp [toPy, toPys_enc], fun l => by simp [PyData.canLay0, layAll_enc], fun l => by
  simp only [PyData.depth]
  have := depAll_enc l
  omega, fun l m => by simp only [PyData.eqv, eqvAll_enc]⟩
instance : EncP (α × β) := ⟨fun p => .tuple [EncP.py p.1, EncP.py p.2], max (EncP.dp α) (EncP.dp β) + 1, fun p => by simp [toPy, toPys, EncP.to], fun p => by simp [PyData.canLay0, PyData.canLayAll0, EncP.lay], fun p => by
  simp only [PyData.depth, PyData.depthAll]
  have := EncP.dep p.1
  have := EncP.dep p.2
  omega, fun p q => by
  obtain ⟨a, b⟩ := p
  obtain ⟨c, d⟩ := q
  simp [PyData.eqv, PyData.eqvAll, EncP.eqv]⟩
theorem shaped_list (l : List α) (h : EncP.dp α < 64) : SeqAt.shaped (.list (l.map EncP.py)) = true := by
  have := depAll_enc l
  simp only [SeqAt.shaped, PyData.canLay0, layAll_enc, PyData.depth, Bool.true_and]
  exact decide_eq_true (by omega)
theorem shaped_tup (l : List α) (h : EncP.dp α < 64) : SeqAt.shaped (.tuple (l.map EncP.py)) = true := by
  have := depAll_enc l
  simp only [SeqAt.shaped, PyData.canLay0, layAll_enc, PyData.depth, Bool.true_and]
  exact decide_eq_true (by omega)
theorem shp_list {a b : R} {st : Sto} (l m : List α) (ha : asL a st = some (l.map enc)) (hb : asL b st = some (m.map enc)) (h : EncP.dp α < 64) : shp a b st = some (decide (l = m)) := by
  have go : ∀ {a : R} {l : List α}, asL a st = some (l.map enc) → toPyR a st = some (.list (l.map EncP.py)) := by
    intro a l e
    unfold asL at e
    split at e
    · split at e
      · rename_i n ds q
        cases e
        simp only [toPyR, q, toPys_enc, Option.map_some]
      · cases e
    · cases e
      simp only [toPyR, toPys_enc, Option.map_some]
    · cases e
  simp only [shp, go ha, go hb, shaped_list l h, shaped_list m h, and_self, if_true, PyData.eqv, eqvAll_enc]
theorem shp_tup {st : Sto} (l m : List α) (h : EncP.dp α < 64) : shp (.val (.tup (l.map enc))) (.val (.tup (m.map enc))) st = some (decide (l = m)) := by
  simp only [shp, toPyR, toPy, toPys_enc, Option.map_some, shaped_tup l h, shaped_tup m h, and_self, if_true, PyData.eqv, eqvAll_enc]
theorem gEq_new (l m : List α) (st : Sto) (h : EncP.dp α < 64) : gEq (.new (.lst (l.map enc))) (.new (.lst (m.map enc))) st = .ok (.val (.bl (decide (l = m)))) st := by
  simp only [gEq, shp_list l m (a := .new (.lst (l.map enc))) (b := .new (.lst (m.map enc))) (st := st) rfl rfl h]
theorem gNe_new (l m : List α) (st : Sto) (h : EncP.dp α < 64) : gNe (.new (.lst (l.map enc))) (.new (.lst (m.map enc))) st = .ok (.val (.bl (!decide (l = m)))) st := by
  simp only [gNe, shp_list l m (a := .new (.lst (l.map enc))) (b := .new (.lst (m.map enc))) (st := st) rfl rfl h]
theorem gEq_tupE (l m : List α) (st : Sto) (h : EncP.dp α < 64) : gEq (.val (.tup (l.map enc))) (.val (.tup (m.map enc))) st = .ok (.val (.bl (decide (l = m)))) st := by
  simp only [gEq, shp_tup l m h]
theorem gNe_tupE (l m : List α) (st : Sto) (h : EncP.dp α < 64) : gNe (.val (.tup (l.map enc))) (.val (.tup (m.map enc))) st = .ok (.val (.bl (!decide (l = m)))) st := by
  simp only [gNe, shp_tup l m h]
end
/-! ### laws: what comes to True -/
def RetT (o : SO) : Prop := ∃ st1, o = .rt (.val (.bl true)) st1
theorem RetT.rt (st : Sto) : RetT (.rt (.val (.bl true)) st) := ⟨st, rfl⟩
section
variable {α : Type} {chk : Chk} {tg : Tg} {body : DS} {ks : List Nat} {n : Nat} {ρ : En} {st st1 : Sto} {k : En → Sto → SO} {src : DI} {fa : DA}
theorem for_range_G (G : SO → Prop) (P : Nat → En → Sto → Prop) (hr : fa ρ st = .ok [.val (.int (n : Nat))] st1) (hn : n < 1000000000000) (h0 : P 0 ρ st1)
    (hs : ∀ j, j < n → ∀ ρ st, P j ρ st → ∃ ρ1, bindT tg (.int (j : Nat)) ρ = some ρ1 ∧ ∀ N : En → Sto → Prop, (∀ ρ2 st2, P (j + 1) (tidy ks ρ1 st ρ2 st2).1 (tidy ks ρ1 st ρ2 st2).2 → N ρ2 st2) → Turn N (body ρ1 st))
    (he : ∀ ρ st, P n ρ st → G (k ρ st)) : G ((sFor (iRange1 fa) tg body ks ρ st).then k) := by
  obtain ⟨ρ', st', h1, h2⟩ := for_range P hr hn h0 hs
  rw [h1]
  exact he _ _ h2
theorem for_lst_G (G : SO → Prop) (f : α → D) (items : List α) (P : List α → En → Sto → Prop) (hr : src ρ st = .ok (items.map f, chk) st1) (h0 : P [] ρ st1)
    (hs : ∀ pre a, (∃ post, items = pre ++ a :: post) → ∀ ρ st, P pre ρ st → chk st ∧ ∃ ρ1, bindT tg (f a) ρ = some ρ1 ∧ ∀ N : En → Sto → Prop, (∀ ρ2 st2, P (pre ++ [a]) (tidy ks ρ1 st ρ2 st2).1 (tidy ks ρ1 st ρ2 st2).2 → N ρ2 st2) → Turn N (body ρ1 st))
    (hc : ∀ ρ st, P items ρ st → chk st) (he : ∀ ρ st, P items ρ st → G (k ρ st)) : G ((sFor src tg body ks ρ st).then k) := by
  obtain ⟨ρ', st', h1, h2⟩ := for_lst f items P hr h0 hs hc
  rw [h1]
  exact he _ _ h2
theorem while_G (G : SO → Prop) {c : DT} (P : Nat → En → Sto → Prop) (m : Nat) (h0 : P m ρ st) (hs : ∀ m ρ st, P m ρ st → ∃ b st1, c ρ st = .ok b st1 ∧ (b = false → G (k ρ st1)) ∧ (b = true → ∀ N : En → Sto → Prop, (∀ ρ2 st2, (∃ m', m' < m ∧ P m' (tidy ks ρ st1 ρ2 st2).1 (tidy ks ρ st1 ρ2 st2).2) → N ρ2 st2) → Turn N (body ρ st1))) :
    G ((sWhile c body ks ρ st).then k) := by
  obtain ⟨ρ', st', e, q⟩ := while_ok P (fun ρ st => G (k ρ st)) hs m h0
  rw [e]
  exact q
end
theorem dFn_ret {n : Nat} {body : DS} {ds : List D} (h : RetT (body (ds.map some ++ List.replicate (n - ds.length) none) [])) : ∃ st, dFn n body ds [] = .ok (.val (.bl true)) st := by
  obtain ⟨st1, h⟩ := h
  exact ⟨[], dFn_rt h (leave_bl [] st1 true)⟩
/-- the store of a law: the script's own list, the stream -/
def stS (s : Strm) : Sto := [.lst (s.ns.map D.int), s.O 0]
theorem drawS {s : Strm} (g : s.Good) (l : Sto) (m : Int) (h0 : 0 < m) (h1 : m < 1000000) : ∃ (v : Nat) (s' : Strm), (v : Int) < m ∧ s'.Good ∧ F__law_draw [.loc 1, .int m] (stS s ++ l) = .ok (.val (.int v)) (stS s' ++ l) := by
  have hh : HasS (stS s ++ l) 1 0 s := ⟨by simp [stS], by simp [stS], by decide, g⟩
  obtain ⟨v, s', v0, v1, en, gd, h⟩ := draw_ok (m := m) hh h0 h1
  obtain ⟨n, hn⟩ : ∃ n : Nat, v = n := ⟨v.toNat, by omega⟩
  refine ⟨n, s', by omega, gd, ?_⟩
  rw [h, hn]
  simp [stS, en]
theorem streamS (ns : List Int) (hl : ns.length ≤ 63) : ∃ s : Strm, s.Good ∧ F__law_stream [.rol (ns.map D.int)] [] = .ok (.new (s.O 0)) [.lst (ns.map D.int)] ∧ stS s = [.lst (ns.map D.int), s.O 0] := by
  obtain ⟨m, h0, h1, h⟩ := stream_ok ns []
  exact ⟨⟨ns, 0, 0, m⟩, ⟨Int.le_refl _, h0, h1, hl⟩, h, rfl⟩
/-! ### sameness of what is typed -/
theorem okay_tup {n : Nat} {ds : List D} (hl : ds.length ≤ 1000000) (h : ∀ d ∈ ds, okay n d = true) : okay (n + 1) (.tup ds) = true := by
  unfold okay
  rw [Bool.and_eq_true, List.all_eq_true]
  exact ⟨decide_eq_true hl, h⟩
theorem okay_list {α : Type} [Enc α] {n : Nat} {l : List α} (hl : l.length ≤ 1000000) (h : ∀ a ∈ l, okay n (enc a) = true) : okay (n + 1) (.tup (l.map enc)) = true := by
  refine okay_tup (by rw [List.length_map]; exact hl) fun d hd => ?_
  obtain ⟨a, ha, e⟩ := List.mem_map.mp hd
  rw [← e]
  exact h a ha
theorem okay_int (n : Nat) (i : Int) : okay (n + 1) (.int i) = true := rfl
theorem okay_bl (n : Nat) (i : Bool) : okay (n + 1) (.bl i) = true := rfl
theorem okay_str (n : Nat) (i : Str) : okay (n + 1) (.str i) = true := rfl
theorem okay_non (n : Nat) : okay (n + 1) .non = true := rfl
theorem okay_fr (n : Nat) (p : Fr) : okay (n + 2) (.tup [.int p.1, .int p.2]) = true := okay_tup (by simp) fun d hd => by
  simp at hd
  rcases hd with e | e <;> rw [e] <;> rfl
theorem seqOf_loc {n : Nat} {st : Sto} {ds : List D} (h : st[n]? = some (.lst ds)) : seqOf (.val (.loc n)) st = .ok (ds, chkOf (.val (.loc n)) ds) st := by
  simp [seqOf, h]
theorem gSum_map {α : Type} (f : α → Int) (l : List α) (st : Sto) : gSum [.new (.lst (l.map fun a => .int (f a)))] st = .ok (.val (.int (l.map f).sum)) st := by
  have := gSum_new (l.map f) st
  rwa [List.map_map] at this
theorem rep_one (n : Nat) (d : D) : (List.replicate n [d]).flatten = List.replicate n d := by simp
theorem lc_at {α : Type} {src : DI} {tg : Tg} {el : DE} {ws : List Nat} {ρ : En} {st : Sto} {chk : Chk} (f : α → D) (g : α → D) (items : List α) (hr : src ρ st = .ok (items.map f, chk) st) (hchk : chk st) (hl : items.length ≤ 1000000)
    (h : ∀ a ∈ items, ∃ ρ1, bindT tg (f a) (wipeE ρ ws) = some ρ1 ∧ el ρ1 st = .ok (.val (g a)) st) : dLc src tg tYes' el ws ρ st = .ok (.new (.lst (items.map g))) st := lc_eq f g items hr hchk hl h
theorem lc_atF {α : Type} {src : DI} {tg : Tg} {tt : DT} {el : DE} {ws : List Nat} {ρ : En} {st : Sto} {chk : Chk} (f : α → D) (c : α → Bool) (g : α → D) (items : List α) (hr : src ρ st = .ok (items.map f, chk) st) (hchk : chk st) (hl : items.length ≤ 1000000)
    (h : ∀ a ∈ items, ∃ ρ1, bindT tg (f a) (wipeE ρ ws) = some ρ1 ∧ tt ρ1 st = .ok (c a) st ∧ (c a = true → el ρ1 st = .ok (.val (g a)) st)) : dLc src tg tt el ws ρ st = .ok (.new (.lst ((items.filter c).map g))) st := lc_eqF f c g items hr hchk hl h
@[simp] theorem gSum_tupE (l : List Int) (st : Sto) : gSum [.val (.tup (l.map enc))] st = .ok (.val (.int l.sum)) st := gSum_tup l st
@[simp] theorem gSum_newE (l : List Int) (st : Sto) : gSum [.new (.lst (l.map enc))] st = .ok (.val (.int l.sum)) st := gSum_new l st
/-! ### range(a, n, c) upwards -/
theorem rsize_nat (a n c : Nat) (hc : 0 < c) : Builtin.Range.rangeSize (a : Int) (n : Int) (c : Int) = (((n - a + c - 1) / c : Nat) : Int) := by
  unfold Builtin.Range.rangeSize
  rw [if_pos (by omega)]
  by_cases h : a < n
  · rw [if_pos (by omega), show n - a + c - 1 = (n - a - 1) + c by omega, Nat.add_div_right _ hc]
    have : ((n : Int) - (a : Int) - 1) = ((n - a - 1 : Nat) : Int) := by omega
    rw [this]
    norm_cast
  · rw [if_neg (by omega), show n - a + c - 1 = c - 1 by omega, Nat.div_eq_of_lt (by omega)]
    rfl
theorem rfits {i : Int} (h : -1000000000 < i ∧ i < 1000000000) : Builtin.Range.rangeFitsLong i = true := by
  unfold Builtin.Range.rangeFitsLong
  rw [Bool.and_eq_true]
  exact ⟨decide_eq_true (by omega), decide_eq_true (by omega)⟩
theorem rsmall_nat (a n c : Nat) (hc : 0 < c) (ha : a < 1000000) (hn : n < 1000000) (hc2 : c < 1000000) : Builtin.Range.small (a : Int) (n : Int) (c : Int) = true := by
  unfold Builtin.Range.small
  rw [rsize_nat a n c hc]
  have h1 : (n - a + c - 1) / c ≤ n - a + c - 1 := Nat.div_le_self ..
  generalize (n - a + c - 1) / c = q at h1
  rw [rfits (by omega), rfits (by omega), rfits (by omega), rfits (by omega), if_pos (by omega), rfits (by omega)]
  simp
theorem iRange3_nat {fa : DA} {ρ : En} {st st1 : Sto} {a n c : Nat} (h : fa ρ st = .ok [.val (.int (a : Nat)), .val (.int (n : Nat)), .val (.int (c : Nat))] st1) (hc : 0 < c) (ha : a < 1000000) (hn : n < 1000000) (hc2 : c < 1000000) :
    iRange3 fa ρ st = .ok ((List.range ((n - a + c - 1) / c)).map fun k => D.int ((a + k * c : Nat) : Int), fun _ => True) st1 := by
  have hh : Builtin.Range.small (a : Int) (n : Int) (c : Int) = true ∧ (c : Int) ≠ 0 ∧ (c : Int).natAbs < 1073741824 ∧ 0 ≤ Builtin.Range.rangeSize (a : Int) (n : Int) (c : Int) := ⟨rsmall_nat a n c hc ha hn hc2, by omega, by omega, by rw [rsize_nat a n c hc]; exact Int.natCast_nonneg _⟩
  simp only [iRange3, h, Out.bind_ok]
  rw [if_pos hh, rsize_nat a n c hc, Int.toNat_natCast]
  congr 2
/-! ### tidying, by what is unchanged or far enough down -/
def limO : Option D → Nat → Bool
  | none, _ => true
  | some d, n => d.lim n
@[simp] theorem limO_none (n : Nat) : limO none n = true := rfl
@[simp] theorem limO_some (d : D) (n : Nat) : limO (some d) n = d.lim n := rfl
def EnvS : En → En → Nat → Prop
  | o0 :: ρ0, o :: ρ, n => (o = o0 ∨ limO o n = true) ∧ EnvS ρ0 ρ n
  | _, [], _ => True
  | [], o :: ρ, n => limO o n = true ∧ EnvS [] ρ n
@[simp] theorem envS_cons (o0 o : Option D) (ρ0 ρ : En) (n : Nat) : EnvS (o0 :: ρ0) (o :: ρ) n = ((o = o0 ∨ limO o n = true) ∧ EnvS ρ0 ρ n) := by rw [EnvS]
@[simp] theorem envS_nil (ρ0 : En) (n : Nat) : EnvS ρ0 [] n = True := by cases ρ0 <;> simp [EnvS]
theorem EnvS.lim : ∀ {ρ0 ρ : En} {n : Nat}, EnvS ρ0 ρ n → EnvLim ρ0 ρ n
  | _, [], _, _, i, d, e => by simp at e
  | [], o :: ρ, n, h, 0, d, e => by
    simp at e; subst e
    rw [EnvS] at h
    exact .inr h.1
  | [], o :: ρ, n, h, i + 1, d, e => by
    rw [EnvS] at h
    have := EnvS.lim (ρ0 := []) (ρ := ρ) h.2 i d (by simpa using e)
    simpa using this
  | o0 :: ρ0, o :: ρ, n, h, 0, d, e => by
    simp at e; subst e
    rw [EnvS] at h
    rcases h.1 with z | z
    · exact .inl (by rw [← z]; rfl)
    · exact .inr z
  | o0 :: ρ0, o :: ρ, n, h, i + 1, d, e => by
    rw [EnvS] at h
    have := EnvS.lim (ρ0 := ρ0) (ρ := ρ) h.2 i d (by simpa using e)
    simpa using this
theorem tidy_y {ks : List Nat} {ρ0 ρ : En} {st l0 l1 : Sto} (h : l0.length ≤ l1.length) (hl : ((l1.take l0.length).all fun o => o.lim (st.length + l0.length)) = true) (he : EnvS ρ0 (wipeE ρ ks) (st.length + l0.length)) :
    tidy ks ρ0 (st ++ l0) ρ (st ++ l1) = (wipeE ρ ks, st ++ l1.take l0.length) := by
  have ha : (l1.take l0.length).length = l0.length := by simp [h]
  rw [tidy_cut]
  · rw [List.take_append, List.take_of_length_le (by simp), List.length_append, Nat.add_sub_cancel_left]
  · refine ⟨by simp [h], fun i o hi e => ?_⟩
    by_cases hs : i < st.length
    · rw [getPl hs] at e ⊢
      exact .inl e
    · rw [List.length_append] at hi
      rw [List.getElem?_append_right (by omega)] at e
      rw [List.length_append]
      exact .inr (List.all_eq_true.mp hl o (List.mem_of_getElem? (i := i - st.length) (by rw [List.getElem?_take, if_pos (by omega)]; exact e)))
  · rw [List.length_append]
    exact he.lim
theorem tidy_ytop {ks : List Nat} {ρ0 ρ : En} {st l : Sto} (he : EnvS ρ0 (wipeE ρ ks) st.length) : tidy ks ρ0 st ρ (st ++ l) = (wipeE ρ ks, st) := by
  have := tidy_y (ks := ks) (ρ0 := ρ0) (ρ := ρ) (st := st) (l0 := []) (l1 := l) (by simp) (by simp) (by simpa using he)
  simpa using this
@[simp] theorem gSl_tup (ds : List D) (lo hi : Option Int) (st : Sto) : gSl (.val (.tup ds)) lo hi st = .ok (.val (.tup (cutD ds lo hi))) st := id rfl
@[simp] theorem lims_int (l : List Int) (n : Nat) : D.lims (l.map D.int) n = true := lims_enc l n
theorem cut_enc {α : Type} [Enc α] (l : List α) (a b : Nat) : cutD (l.map enc) (some (a : Int)) (some ((a : Int) + (b : Int))) = ((l.drop a).take b).map enc := by
  rw [← Int.natCast_add, cutD_nat, List.map_take, List.map_drop, Nat.add_sub_cancel_left]
theorem stS_len (s : Strm) : (stS s).length = 2 := rfl
theorem stS_one (s : Strm) (n : Nat) : 1 < (stS s).length + n := by rw [stS_len]; omega
theorem stS_one' (s : Strm) : 1 < (stS s).length := by rw [stS_len]; omega
/-! ### the end of a law: whatever stands for the names -/
theorem all_sp {x : Str} {P : Program} {w : World} {K : PySem.W.Frag} {mg : Str → Option Value} {CX : CXT} {k : Nat} {fa : Addr} {ps : List Str} {F : FD}
    (h : ∃ fd : FuncData, (∀ (s : Shared) (u : Value), BindsTo s fd ⟨[u], []⟩ [(x, u)]) ∧ ∀ base : Heap, K.In base → base.Ns mainGlobals mg → FnOk P w K mg base CX k fa fd ps (fun vs H Q _ => spF K mg 1 F vs H Q E0)) :
    ∃ fd : FuncData, (∀ (s : Shared) (u : Value), BindsTo s fd ⟨[u], []⟩ [(x, u)]) ∧ ∀ base : Heap, K.In base → base.Ns mainGlobals mg → FnOk P w K mg base CX k fa fd ps (fun vs H Q _ => ∀ mg, spF K mg 1 F vs H Q E0) := by
  obtain ⟨fd, h1, h2⟩ := h
  exact ⟨fd, h1, fun base k1 k2 => (h2 base k1 k2).imp fun _ _ _ _ q => q mg⟩
end MM
namespace MM
open PySem PySem.Spec PyProof.Rows L2
open Enc (enc)
/-! ### rational numbers: fractions are their numerators and denominators -/
instance : Enc Rat := ⟨fun q => .tup [.int q.num, .int q.den], fun _ _ => by simp⟩
@[simp] theorem enc_rat (q : Rat) : (enc q : D) = .tup [.int q.num, .int q.den] := rfl
theorem fdiv_dvd {n g : Int} (h : g ∣ n) : n.fdiv g = n / g := by
  obtain ⟨k, e⟩ := h
  subst e
  by_cases hg : g = 0
  · subst hg; simp
  · rw [Int.mul_fdiv_cancel_left _ hg, Int.mul_ediv_cancel_left _ hg]
theorem mkF_rat {n d : Int} (hd : d ≠ 0) : mkF n d = ((Rat.divInt n d).num, ((Rat.divInt n d).den : Int)) := by
  have hg : Int.gcd d n = Int.gcd n d := Int.gcd_comm ..
  have h1 : (Int.gcd n d : Int) ∣ n := Int.gcd_dvd_left ..
  have h2 : (Int.gcd n d : Int) ∣ d := Int.gcd_dvd_right ..
  have hp : (0 : Int) < (Int.gcd n d : Int) := by have := gcd_pos_right (n := n) hd; omega
  rw [Rat.num_divInt, Rat.den_divInt, if_neg hd, hg]
  unfold mkF
  by_cases h0 : d < 0
  · rw [if_pos h0, Int.sign_eq_neg_one_of_neg h0, fdiv_dvd (Int.neg_dvd.mpr h1), fdiv_dvd (Int.neg_dvd.mpr h2), Int.ediv_neg, Int.ediv_neg]
    have e1 : -1 * n / (Int.gcd n d : Int) = -(n / (Int.gcd n d : Int)) := by
      rw [Int.neg_one_mul, Int.neg_ediv_of_dvd h1]
    have e2 : ((d.natAbs / Int.gcd n d : Nat) : Int) = -(d / (Int.gcd n d : Int)) := by
      rw [Int.natCast_ediv, ← Int.neg_ediv_of_dvd h2]
      congr 1
      omega
    rw [e1, e2]
  · rw [if_neg h0, Int.sign_eq_one_of_pos (by omega), fdiv_dvd h1, fdiv_dvd h2, Int.one_mul]
    have e2 : ((d.natAbs / Int.gcd n d : Nat) : Int) = d / (Int.gcd n d : Int) := by
      rw [Int.natCast_ediv]
      congr 1
      omega
    rw [e2]
/-- of so many bits -/
structure Sz (a : Nat) (q : Rat) : Prop where
  num : q.num.natAbs < 2 ^ a
  den : q.den < 2 ^ a
theorem Sz.mono {a b : Nat} {q : Rat} (h : Sz a q) (hab : a ≤ b) : Sz b q :=
  ⟨Nat.lt_of_lt_of_le h.num (Nat.pow_le_pow_right (by decide) hab), Nat.lt_of_lt_of_le h.den (Nat.pow_le_pow_right (by decide) hab)⟩
/-- d stands for q: computed, or written -/
def IsR (d : D) (q : Rat) : Prop := d = .tup [.int q.num, .int q.den] ∨ d = .kt [.int q.num, .int q.den]
theorem IsR.enc (q : Rat) : IsR (enc q) q := .inl rfl
theorem IsR.tup (q : Rat) : IsR (.tup [.int q.num, .int q.den]) q := .inl rfl
theorem IsR.ix0 {d : D} {q : Rat} (h : IsR d q) (st : Sto) : gIx (.val d) (.val (.int 0)) st = .ok (.val (.int q.num)) st := by
  rcases h with h | h <;> subst h <;> rfl
theorem IsR.ix1 {d : D} {q : Rat} (h : IsR d q) (st : Sto) : gIx (.val d) (.val (.int 1)) st = .ok (.val (.int q.den)) st := by
  rcases h with h | h <;> subst h <;> rfl
theorem mul_sz {i j : Int} {a b : Nat} (st : Sto) (h1 : i.natAbs < 2 ^ a) (h2 : j.natAbs < 2 ^ b) (ha : a ≤ 4000) (hb : b ≤ 4000) : gMul (.val (.int i)) (.val (.int j)) st = .ok (.val (.int (i * j))) st := by
  refine gMul_bd st (a := a + 1) (b := b + 1) ?_ ?_ (by omega) (by omega) (by omega)
  · exact Nat.lt_of_lt_of_le h1 (Nat.pow_le_pow_right (by decide) (by omega))
  · exact Nat.lt_of_lt_of_le h2 (Nat.pow_le_pow_right (by decide) (by omega))
theorem den_pos (q : Rat) : (0 : Int) < q.den := by have := q.den_pos; omega
theorem den_log {a b : Rat} {n : Nat} (ha : Sz n a) (hb : Sz n b) (hn : n ≤ 4000) : ((a.den : Int) * (b.den : Int)).natAbs.log2 < 9000 := by
  have h : ((a.den : Int) * (b.den : Int)).natAbs < 2 ^ (n + n) := by
    rw [Int.natAbs_mul, Nat.pow_add]
    exact Nat.mul_lt_mul'' (by simpa using ha.den) (by simpa using hb.den)
  have h' : ((a.den : Int) * (b.den : Int)).natAbs < 2 ^ (n + n + 1) := Nat.lt_of_lt_of_le h (Nat.pow_le_pow_right (by decide) (by omega))
  have := log2_lt h' (by omega)
  omega
theorem prod_ne (a b : Rat) : (a.den : Int) * (b.den : Int) ≠ 0 := by
  have := Int.mul_pos (den_pos a) (den_pos b)
  omega
theorem encF_rat {n d : Int} (hd : d ≠ 0) (q : Rat) (h : Rat.divInt n d = q) : encF (mkF n d) = enc q := by
  rw [mkF_rat hd, h]
  rfl
theorem rat_add (a b : Rat) : Rat.divInt (a.num * b.den + b.num * a.den) (a.den * b.den) = a + b := by
  have ha := den_pos a
  have hb := den_pos b
  have e := Rat.divInt_add_divInt a.num b.num (d₁ := (a.den : Int)) (d₂ := (b.den : Int)) (by omega) (by omega)
  rw [Rat.num_divInt_den, Rat.num_divInt_den] at e
  exact e.symm
theorem rat_sub (a b : Rat) : Rat.divInt (a.num * b.den - b.num * a.den) (a.den * b.den) = a - b := by
  have h := rat_add a (-b)
  rw [Rat.neg_num, Rat.neg_den, Int.neg_mul, ← Int.sub_eq_add_neg] at h
  rw [h, Rat.sub_eq_add_neg]
theorem rat_mul (a b : Rat) : Rat.divInt (a.num * b.num) (a.den * b.den) = a * b := by
  have e := Rat.divInt_mul_divInt a.num b.num (d₁ := (a.den : Int)) (d₂ := (b.den : Int))
  rw [Rat.num_divInt_den, Rat.num_divInt_den] at e
  exact e.symm
section
variable {x y : D} {a b : Rat} {n : Nat} (st : Sto) (hx : IsR x a) (hy : IsR y b) (ha : Sz n a) (hb : Sz n b) (hn : n ≤ 4000)
include hx hy ha hb hn
theorem plus_rat : F_plus [x, y] st = .ok (.val (enc (a + b))) st := by
  refine dFn_rt (r := .val (enc (a + b))) (st1 := st) ?_ (leave_same ..)
  have e1 := mul_sz st ha.num (j := (b.den : Int)) (b := n) (by simpa using hb.den) hn hn
  have e2 := mul_sz st hb.num (j := (a.den : Int)) (b := n) (by simpa using ha.den) hn hn
  have e3 := mul_sz st (i := (a.den : Int)) (a := n) (j := (b.den : Int)) (b := n) (by simpa using ha.den) (by simpa using hb.den) hn hn
  have e4 := fraction_ok (n := a.num * b.den + b.num * a.den) st (prod_ne a b) (den_log ha hb hn)
  rw [encF_rat (prod_ne a b) _ (rat_add a b)] at e4
  simp at e4
  simp [hx.ix0, hx.ix1, hy.ix0, hy.ix1, e1, e2, e3, e4]
theorem minus_rat : F_minus [x, y] st = .ok (.val (enc (a - b))) st := by
  refine dFn_rt (r := .val (enc (a - b))) (st1 := st) ?_ (leave_same ..)
  have e1 := mul_sz st ha.num (j := (b.den : Int)) (b := n) (by simpa using hb.den) hn hn
  have e2 := mul_sz st hb.num (j := (a.den : Int)) (b := n) (by simpa using ha.den) hn hn
  have e3 := mul_sz st (i := (a.den : Int)) (a := n) (j := (b.den : Int)) (b := n) (by simpa using ha.den) (by simpa using hb.den) hn hn
  have e4 := fraction_ok (n := a.num * b.den - b.num * a.den) st (prod_ne a b) (den_log ha hb hn)
  rw [encF_rat (prod_ne a b) _ (rat_sub a b)] at e4
  simp at e4
  simp [hx.ix0, hx.ix1, hy.ix0, hy.ix1, e1, e2, e3, e4]
theorem times_rat : F_times [x, y] st = .ok (.val (enc (a * b))) st := by
  refine dFn_rt (r := .val (enc (a * b))) (st1 := st) ?_ (leave_same ..)
  have e1 := mul_sz st ha.num hb.num hn hn
  have e3 := mul_sz st (i := (a.den : Int)) (a := n) (j := (b.den : Int)) (b := n) (by simpa using ha.den) (by simpa using hb.den) hn hn
  have e4 := fraction_ok (n := a.num * b.num) st (prod_ne a b) (den_log ha hb hn)
  rw [encF_rat (prod_ne a b) _ (rat_mul a b)] at e4
  simp at e4
  simp [hx.ix0, hx.ix1, hy.ix0, hy.ix1, e1, e3, e4]
theorem is_less_rat : F_is_less [x, y] st = .ok (.val (.bl (decide (a < b)))) st := by
  refine dFn_rt (r := .val (.bl (decide (a < b)))) (st1 := st) ?_ (leave_same ..)
  have e1 := mul_sz st ha.num (j := (b.den : Int)) (b := n) (by simpa using hb.den) hn hn
  have e2 := mul_sz st hb.num (j := (a.den : Int)) (b := n) (by simpa using ha.den) hn hn
  have e3 : decide (a < b) = decide (a.num * (b.den : Int) < b.num * (a.den : Int)) := by rw [decide_eq_decide]; exact Rat.lt_iff a b
  simp [hx.ix0, hx.ix1, hy.ix0, hy.ix1, e1, e2, e3]
theorem lawAdd_rat : F__law_add [x, y] st = .ok (.val (enc (a + b))) st := by
  refine dFn_rt (r := .val (enc (a + b))) (st1 := st) ?_ (leave_same ..)
  have e1 := mul_sz st ha.num (j := (b.den : Int)) (b := n) (by simpa using hb.den) hn hn
  have e2 := mul_sz st hb.num (j := (a.den : Int)) (b := n) (by simpa using ha.den) hn hn
  have e3 := mul_sz st (i := (a.den : Int)) (a := n) (j := (b.den : Int)) (b := n) (by simpa using ha.den) (by simpa using hb.den) hn hn
  have e4 := f_ok (n := a.num * b.den + b.num * a.den) st (prod_ne a b) (den_log ha hb hn)
  rw [encF_rat (prod_ne a b) _ (rat_add a b)] at e4
  simp at e4
  simp [hx.ix0, hx.ix1, hy.ix0, hy.ix1, e1, e2, e3, e4]
theorem lawMul_rat : F__law_mul [x, y] st = .ok (.val (enc (a * b))) st := by
  refine dFn_rt (r := .val (enc (a * b))) (st1 := st) ?_ (leave_same ..)
  have e1 := mul_sz st ha.num hb.num hn hn
  have e3 := mul_sz st (i := (a.den : Int)) (a := n) (j := (b.den : Int)) (b := n) (by simpa using ha.den) (by simpa using hb.den) hn hn
  have e4 := f_ok (n := a.num * b.num) st (prod_ne a b) (den_log ha hb hn)
  rw [encF_rat (prod_ne a b) _ (rat_mul a b)] at e4
  simp at e4
  simp [hx.ix0, hx.ix1, hy.ix0, hy.ix1, e1, e3, e4]
theorem lawLess_rat : F__law_less [x, y] st = .ok (.val (.bl (decide (a < b)))) st := by
  refine dFn_rt (r := .val (.bl (decide (a < b)))) (st1 := st) ?_ (leave_same ..)
  have e1 := mul_sz st ha.num (j := (b.den : Int)) (b := n) (by simpa using hb.den) hn hn
  have e2 := mul_sz st hb.num (j := (a.den : Int)) (b := n) (by simpa using ha.den) hn hn
  have e3 : decide (a < b) = decide (a.num * (b.den : Int) < b.num * (a.den : Int)) := by rw [decide_eq_decide]; exact Rat.lt_iff a b
  simp [hx.ix0, hx.ix1, hy.ix0, hy.ix1, e1, e2, e3]
end
theorem lawNeg_rat {x : D} {a : Rat} (st : Sto) (hx : IsR x a) : F__law_neg [x] st = .ok (.val (enc (-a))) st := by
  refine dFn_rt (r := .val (enc (-a))) (st1 := st) ?_ (leave_same ..)
  simp [hx.ix0, hx.ix1, Rat.neg_num, Rat.neg_den]
theorem lawF_rat {n d : Int} (st : Sto) (h : d ≠ 0) (hb : d.natAbs.log2 < 9000) : F__law_f [.int n, .int d] st = .ok (.val (enc (Rat.divInt n d))) st := by
  rw [f_ok st h hb, encF_rat h _ rfl]
/-! what is of a kind m / N, |m| at most M -/
def Rn (N M : Nat) (q : Rat) : Prop := ∃ m : Int, q = Rat.divInt m N ∧ m.natAbs ≤ M
section
variable {N M M' : Nat} {a b : Rat}
theorem Rn.add (hN : 0 < N) (ha : Rn N M a) (hb : Rn N M' b) : Rn N (M + M') (a + b) := by
  obtain ⟨m, e, h⟩ := ha
  obtain ⟨m', e', h'⟩ := hb
  refine ⟨m + m', ?_, by omega⟩
  have hN' : (N : Int) ≠ 0 := by omega
  rw [e, e', Rat.divInt_add_divInt _ _ hN' hN']
  rw [Rat.divInt_eq_divInt_iff (Int.mul_ne_zero hN' hN') hN', ← Int.add_mul, Int.mul_assoc]
theorem Rn.neg (ha : Rn N M a) : Rn N M (-a) := by
  obtain ⟨m, e, h⟩ := ha
  exact ⟨-m, by rw [e, Rat.neg_divInt], by omega⟩
theorem Rn.sub (hN : 0 < N) (ha : Rn N M a) (hb : Rn N M' b) : Rn N (M + M') (a - b) := by
  rw [Rat.sub_eq_add_neg]
  exact ha.add hN hb.neg
theorem Rn.mul {N' : Nat} (ha : Rn N M a) (hb : Rn N' M' b) : Rn (N * N') (M * M') (a * b) := by
  obtain ⟨m, e, h⟩ := ha
  obtain ⟨m', e', h'⟩ := hb
  refine ⟨m * m', by rw [e, e', Rat.divInt_mul_divInt, Int.natCast_mul], ?_⟩
  rw [Int.natAbs_mul]
  exact Nat.mul_le_mul h h'
theorem Rn.mono (ha : Rn N M a) (h : M ≤ M') : Rn N M' a := by
  obtain ⟨m, e, h'⟩ := ha
  exact ⟨m, e, by omega⟩
theorem Rn.lift (c : Nat) (hN : 0 < N) (hc : 0 < c) (ha : Rn N M a) : Rn (N * c) (M * c) a := by
  obtain ⟨m, e, h⟩ := ha
  refine ⟨m * c, ?_, ?_⟩
  · rw [e, Rat.divInt_eq_divInt_iff (by omega) (by have := Nat.mul_pos hN hc; omega), Int.natCast_mul, Int.mul_assoc, Int.mul_comm (c : Int) (N : Int)]
  · rw [Int.natAbs_mul]
    exact Nat.mul_le_mul h (by simp)
theorem Rn.sz {k : Nat} (hN : 0 < N) (ha : Rn N M a) (h1 : N < 2 ^ k) (h2 : M < 2 ^ k) : Sz k a := by
  obtain ⟨m, e, h⟩ := ha
  have hN' : (N : Int) ≠ 0 := by omega
  refine ⟨?_, ?_⟩
  · rw [e, Rat.num_divInt]
    have h3 : ((N : Int).sign * m / ((Int.gcd (N : Int) m : Nat) : Int)).natAbs ≤ ((N : Int).sign * m).natAbs := Int.natAbs_ediv_le_natAbs ..
    have h4 : ((N : Int).sign * m).natAbs ≤ m.natAbs := by
      rw [Int.sign_eq_one_of_pos (by omega), Int.one_mul]
      exact Nat.le_refl _
    omega
  · rw [e, Rat.den_divInt, if_neg hN']
    have h3 : (N : Int).natAbs / Int.gcd (N : Int) m ≤ (N : Int).natAbs := Nat.div_le_self ..
    omega
end
end MM
namespace MM
open PySem PySem.Spec PyProof.Rows L2
open Enc (enc)
/-! ### lists of new lists -/
def locs (n k : Nat) : List D := (List.range k).map fun i => .loc (n + i)
@[simp] theorem locs_len (n k : Nat) : (locs n k).length = k := by simp [locs]
theorem locs_get {n k i : Nat} (h : i < k) : (locs n k)[i]? = some (.loc (n + i)) := by simp [locs, h]
theorem locs_succ (n k : Nat) : locs n (k + 1) = locs n k ++ [.loc (n + k)] := by simp [locs, List.range_succ]
theorem locs_lim {n k m : Nat} (h : n + k ≤ m) : D.lims (locs n k) m = true := by
  unfold locs
  exact lims_map _ _ _ fun i hi => by
    have := List.mem_range.mp hi
    simp; omega
theorem lcL_new {α : Type} {chk : Chk} {tg : Tg} {el : DE} {ρ : En} (f : α → D) (g : α → List D) {st : Sto} (hchk : ∀ st, chk st) : ∀ (items : List α) (pre : List (List D)), pre.length + items.length ≤ 1000000 →
    (∀ a ∈ items, ∃ ρ1, bindT tg (f a) ρ = some ρ1 ∧ ∀ l, el ρ1 (st ++ l) = .ok (.new (.lst (g a))) (st ++ l)) →
    lcL chk tg tYes' el ρ (items.map f) (st ++ pre.map O.lst) (locs st.length pre.length) = .ok (locs st.length (pre.length + items.length)) (st ++ (pre ++ items.map g).map O.lst)
  | [], pre, _, _ => by
    rw [List.map_nil]
    unfold lcL
    rw [if_pos (hchk _)]
    simp
  | a :: items, pre, hl, h => by
    obtain ⟨ρ1, h1, h2⟩ := h a List.mem_cons_self
    rw [List.length_cons] at hl
    have ih := lcL_new f g hchk items (pre ++ [g a]) (by simp; omega) fun x hx => h x (List.mem_cons_of_mem _ hx)
    rw [List.map_cons]
    unfold lcL
    rw [if_pos (hchk _), h1]
    simp only [ev_tyes, h2, toD_new]
    rw [if_pos (by rw [locs_len]; omega)]
    have e1 : (st ++ pre.map O.lst) ++ [O.lst (g a)] = st ++ (pre ++ [g a]).map O.lst := by simp
    have e2 : locs st.length pre.length ++ [D.loc (st ++ pre.map O.lst).length] = locs st.length (pre ++ [g a]).length := by
      rw [List.length_append, List.length_append, List.length_map, List.length_singleton, locs_succ]
    rw [e1, e2, ih]
    simp [Nat.add_assoc, Nat.add_comm 1]
theorem lc_new {α : Type} {src : DI} {tg : Tg} {el : DE} {ws : List Nat} {ρ : En} {st : Sto} (f : α → D) (g : α → List D) (items : List α) (hr : src ρ st = .ok (items.map f, fun _ => True) st) (hl : items.length ≤ 1000000)
    (h : ∀ a ∈ items, ∃ ρ1, bindT tg (f a) (wipeE ρ ws) = some ρ1 ∧ ∀ l, el ρ1 (st ++ l) = .ok (.new (.lst (g a))) (st ++ l)) : dLc src tg tYes' el ws ρ st = .ok (.new (.lst (locs st.length items.length))) (st ++ (items.map g).map O.lst) := by
  have := lcL_new (chk := fun _ => True) (tg := tg) (el := el) (ρ := wipeE ρ ws) f g (st := st) (fun _ => trivial) items [] (by simpa using hl) h
  rw [ev_lc, hr, Out.bind_ok]
  simp only [List.map_nil, List.append_nil, List.length_nil, Nat.zero_add, List.nil_append] at this
  rw [show locs st.length 0 = [] from rfl] at this
  rw [this, Out.bind_ok]
/-! ### comprehensions that draw -/
theorem lcL_draw {α : Type} {tg : Tg} {el : DE} {ρ : En} (Pv : α → Prop) (f : α → D) (l : Sto) : ∀ (items : List D) (pre : List α) (s : Strm), s.Good → pre.length + items.length ≤ 1000000 →
    (∀ d ∈ items, ∃ ρ1, bindT tg d ρ = some ρ1 ∧ ∀ s : Strm, s.Good → ∃ a s', s'.Good ∧ Pv a ∧ el ρ1 (stS s ++ l) = .ok (.val (f a)) (stS s' ++ l)) →
    ∃ (vals : List α) (s' : Strm), vals.length = items.length ∧ s'.Good ∧ (∀ a ∈ vals, Pv a) ∧ lcL (fun _ => True) tg tYes' el ρ items (stS s ++ l) (pre.map f) = .ok ((pre ++ vals).map f) (stS s' ++ l)
  | [], pre, s, g, _, _ => ⟨[], s, rfl, g, by simp, by unfold lcL; rw [if_pos trivial]; simp⟩
  | d :: items, pre, s, g, hl, h => by
    obtain ⟨ρ1, h1, h2⟩ := h d List.mem_cons_self
    obtain ⟨a, s1, g1, pa, h3⟩ := h2 s g
    rw [List.length_cons] at hl
    obtain ⟨vals, s', e1, g', pv, h4⟩ := lcL_draw (tg := tg) (el := el) (ρ := ρ) Pv f l items (pre ++ [a]) s1 g1 (by simp; omega) fun x hx => h x (List.mem_cons_of_mem _ hx)
    refine ⟨a :: vals, s', by simp [e1], g', fun b hb => ?_, ?_⟩
    · rcases List.mem_cons.mp hb with e | hb
      · rw [e]; exact pa
      · exact pv b hb
    · unfold lcL
      rw [if_pos trivial, h1]
      simp only [ev_tyes, h3, toD_val]
      rw [if_pos (by rw [List.length_map]; omega)]
      have e2 : pre.map f ++ [f a] = (pre ++ [a]).map f := by simp
      rw [e2, h4]
      simp
/-- [.. for x in range(n)] -/
theorem lc_draw {α : Type} {fa : DA} {tg : Tg} {el : DE} {ws : List Nat} {ρ : En} {s s0 : Strm} {n : Nat} {st0 : Sto} (Pv : α → Prop) (f : α → D) (l : Sto) (g : s.Good) (hr : fa ρ st0 = .ok [.val (.int (n : Nat))] (stS s ++ l)) (hn : n ≤ 1000000)
    (h : ∀ i : Nat, i < n → ∃ ρ1, bindT tg (.int i) (wipeE ρ ws) = some ρ1 ∧ ∀ s : Strm, s.Good → ∃ a s', s'.Good ∧ Pv a ∧ el ρ1 (stS s ++ l) = .ok (.val (f a)) (stS s' ++ l)) :
    ∃ (vals : List α) (s' : Strm), vals.length = n ∧ s'.Good ∧ (∀ a ∈ vals, Pv a) ∧ dLc (iRange1 fa) tg tYes' el ws ρ st0 = .ok (.new (.lst (vals.map f))) (stS s' ++ l) := by
  obtain ⟨vals, s', e1, g', pv, h1⟩ := lcL_draw (tg := tg) (el := el) (ρ := wipeE ρ ws) Pv f l (ups 0 n) [] s g (by rw [ups_len]; simpa using hn) fun d hd => by
    obtain ⟨i, hi, e⟩ := ups_mem hd
    rw [Int.zero_add] at e
    subst e
    exact h i hi
  refine ⟨vals, s', by rw [e1, ups_len], g', pv, ?_⟩
  rw [ev_lc, iRange1_nat hr (by omega), Out.bind_ok]
  simp only [List.map_nil, List.nil_append] at h1
  rw [h1, Out.bind_ok]
/-- one of a list -/
theorem pickS {α : Type} {s : Strm} (g : s.Good) (l : Sto) (q : Nat) (xs : List α) (f : α → D) (hp : ∀ s : Strm, (stS s ++ l)[q]? = some (.lst (xs.map f))) (h0 : xs ≠ []) (h1 : xs.length < 1000000) : ∃ (a : α) (s' : Strm), s'.Good ∧ a ∈ xs ∧ F__law_pick [.loc 1, .loc q] (stS s ++ l) = .ok (.val (f a)) (stS s' ++ l) := by
  have h2 : 0 < xs.length := List.length_pos_iff.mpr h0
  obtain ⟨v, s', hv, g', hd⟩ := drawS g l (xs.length : Int) (by omega) (by omega)
  have hv' : v < xs.length := by omega
  refine ⟨xs[v], s', g', List.getElem_mem hv', ?_⟩
  have e1 := gIx_locN (hp s') v (f xs[v]) (by rw [List.getElem?_map, List.getElem?_eq_getElem hv']; rfl)
  refine dFn_rt (r := .val (f xs[v])) (st1 := stS s' ++ l) ?_ ?_
  · have e2 := gLen_loc (hp s)
    rw [List.length_map] at e2
    simp [e2, hd, e1, -gLen_locM]
  · refine leave_len _ ?_
    simp [stS_len]
/-- fractions are the same whichever way they stand there -/
theorem same_fr {x y : D} {q : Rat} (n : Nat) (st : Sto) (hx : IsR x q) (hy : IsR y q) : F__law_same (n + 2) [x, y] st = .ok (.val (.bl true)) st := by
  have hs : ∀ (i : Int) st, F__law_same (n + 1) [.int i, .int i] st = .ok (.val (.bl true)) st := fun i st => same_refl (n + 1) _ st rfl
  have go : ∀ a b : D, (a = .tup [.int q.num, .int q.den] ∨ a = .kt [.int q.num, .int q.den]) → gLen [.val a] st = .ok (.val (.int (([D.int q.num, D.int q.den] : List D).length))) st ∧ tyOf (.val a) st = some .tup ∧ ∀ (i : Nat) d, ([D.int q.num, D.int q.den] : List D)[i]? = some d → gIx (.val a) (.val (.int (i : Nat))) st = .ok (.val d) st := by
    intro a b h
    rcases h with h | h <;> subst h <;> refine ⟨rfl, rfl, fun i d e => ?_⟩
    · exact gIx_tupN st i d e
    · match i, e with
      | 0, e => cases e; rfl
      | 1, e => cases e; rfl
  obtain ⟨a1, a2, a3⟩ := go x y hx
  obtain ⟨b1, b2, b3⟩ := go y x hy
  refine same_seq (t := .tup) (.inl rfl) a2 b2 fun ρ r0 r1 r2 => same_items (n := n + 1) a1 b1 rfl (by simp) a3 b3 (fun i d e e1 e2 => ?_) ρ r0 r1 r2
  rw [e1] at e2; cases e2
  match i, e1 with
  | 0, e1 => cases e1; exact hs _ st
  | 1, e1 => cases e1; exact hs _ st
/-- pairs -/
theorem same_two {a b c d : D} (n : Nat) (st : Sto) (h1 : F__law_same n [a, c] st = .ok (.val (.bl true)) st) (h2 : F__law_same n [b, d] st = .ok (.val (.bl true)) st) : F__law_same (n + 1) [.tup [a, b], .tup [c, d]] st = .ok (.val (.bl true)) st := by
  refine same_seq (t := .tup) (.inl rfl) rfl rfl fun ρ r0 r1 r2 => same_items (n := n) (ds := [a, b]) (es := [c, d]) (gLen_tup [a, b] st) (gLen_tup [c, d] st) rfl (by simp) (gIx_tupN st) (gIx_tupN st) (fun i d e e1 e2 => ?_) ρ r0 r1 r2
  match i, e1, e2 with
  | 0, e1, e2 => cases e1; cases e2; exact h1
  | 1, e1, e2 => cases e1; cases e2; exact h2
/-! ### what a def hands back, as a property -/
def Post (st : Sto) (C : Out R → Prop) (o : SO) : Prop := ∃ r st1, o = .rt r st1 ∧ C (leave st r st1)
theorem dFn_post {n : Nat} {body : DS} {ds : List D} {st : Sto} (C : Out R → Prop) (h : Post st C (body (ds.map some ++ List.replicate (n - ds.length) none) st)) : C (dFn n body ds st) := by
  obtain ⟨r, st1, h1, h2⟩ := h
  unfold dFn
  rw [h1]
  exact h2
theorem Post.rt {st st1 : Sto} {C : Out R → Prop} {r : R} (h : C (leave st r st1)) : Post st C (.rt r st1) := ⟨r, st1, rfl, h⟩
/-! the same where what is walked leaves the store as it was -/
theorem split_mem {α : Type} {l pre post : List α} {a : α} (h : l = pre ++ a :: post) : pre.length < l.length ∧ a ∈ l := by
  subst h
  simp
section
variable {α : Type} {chk : Chk} {tg : Tg} {body : DS} {ks : List Nat} {n : Nat} {ρ : En} {st : Sto} {k : En → Sto → SO} {src : DI} {fa : DA} {N : En → Sto → Prop}
theorem for_range_Gs (G : SO → Prop) (P : Nat → En → Sto → Prop) (hr : fa ρ st = .ok [.val (.int (n : Nat))] st) (hn : n < 1000000000000) (h0 : P 0 ρ st)
    (hs : ∀ j, j < n → ∀ ρ st, P j ρ st → ∃ ρ1, bindT tg (.int (j : Nat)) ρ = some ρ1 ∧ ∀ N : En → Sto → Prop, (∀ ρ2 st2, P (j + 1) (tidy ks ρ1 st ρ2 st2).1 (tidy ks ρ1 st ρ2 st2).2 → N ρ2 st2) → Turn N (body ρ1 st))
    (he : ∀ ρ st, P n ρ st → G (k ρ st)) : G ((sFor (iRange1 fa) tg body ks ρ st).then k) := for_range_G G P hr hn h0 hs he
theorem for_range_turns (P : Nat → En → Sto → Prop) (hr : fa ρ st = .ok [.val (.int (n : Nat))] st) (hn : n < 1000000000000) (h0 : P 0 ρ st)
    (hs : ∀ j, j < n → ∀ ρ st, P j ρ st → ∃ ρ1, bindT tg (.int (j : Nat)) ρ = some ρ1 ∧ ∀ N : En → Sto → Prop, (∀ ρ2 st2, P (j + 1) (tidy ks ρ1 st ρ2 st2).1 (tidy ks ρ1 st ρ2 st2).2 → N ρ2 st2) → Turn N (body ρ1 st))
    (he : ∀ ρ st, P n ρ st → Turn N (k ρ st)) : Turn N ((sFor (iRange1 fa) tg body ks ρ st).then k) := for_range_turn P hr hn h0 hs he
theorem for_range_turns0 (P : Nat → En → Sto → Prop) (hr : fa ρ st = .ok [.val (.int (n : Nat))] st) (hn : n < 1000000000000) (h0 : P 0 ρ st)
    (hs : ∀ j, j < n → ∀ ρ st, P j ρ st → ∃ ρ1, bindT tg (.int (j : Nat)) ρ = some ρ1 ∧ ∀ N : En → Sto → Prop, (∀ ρ2 st2, P (j + 1) (tidy ks ρ1 st ρ2 st2).1 (tidy ks ρ1 st ρ2 st2).2 → N ρ2 st2) → Turn N (body ρ1 st))
    (he : ∀ ρ st, P n ρ st → N ρ st) : Turn N (sFor (iRange1 fa) tg body ks ρ st) := for_range_turn0 P hr hn h0 hs he
theorem for_lst_Gs (G : SO → Prop) (f : α → D) (items : List α) (P : List α → En → Sto → Prop) (hr : src ρ st = .ok (items.map f, chk) st) (h0 : P [] ρ st)
    (hs : ∀ pre a, (∃ post, items = pre ++ a :: post) → ∀ ρ st, P pre ρ st → chk st ∧ ∃ ρ1, bindT tg (f a) ρ = some ρ1 ∧ ∀ N : En → Sto → Prop, (∀ ρ2 st2, P (pre ++ [a]) (tidy ks ρ1 st ρ2 st2).1 (tidy ks ρ1 st ρ2 st2).2 → N ρ2 st2) → Turn N (body ρ1 st))
    (hc : ∀ ρ st, P items ρ st → chk st) (he : ∀ ρ st, P items ρ st → G (k ρ st)) : G ((sFor src tg body ks ρ st).then k) := for_lst_G G f items P hr h0 hs hc he
theorem for_lst_turns (f : α → D) (items : List α) (P : List α → En → Sto → Prop) (hr : src ρ st = .ok (items.map f, chk) st) (h0 : P [] ρ st)
    (hs : ∀ pre a, (∃ post, items = pre ++ a :: post) → ∀ ρ st, P pre ρ st → chk st ∧ ∃ ρ1, bindT tg (f a) ρ = some ρ1 ∧ ∀ N : En → Sto → Prop, (∀ ρ2 st2, P (pre ++ [a]) (tidy ks ρ1 st ρ2 st2).1 (tidy ks ρ1 st ρ2 st2).2 → N ρ2 st2) → Turn N (body ρ1 st))
    (hc : ∀ ρ st, P items ρ st → chk st) (he : ∀ ρ st, P items ρ st → Turn N (k ρ st)) : Turn N ((sFor src tg body ks ρ st).then k) := for_lst_turn f items P hr h0 hs hc he
theorem for_lst_turns0 (f : α → D) (items : List α) (P : List α → En → Sto → Prop) (hr : src ρ st = .ok (items.map f, chk) st) (h0 : P [] ρ st)
    (hs : ∀ pre a, (∃ post, items = pre ++ a :: post) → ∀ ρ st, P pre ρ st → chk st ∧ ∃ ρ1, bindT tg (f a) ρ = some ρ1 ∧ ∀ N : En → Sto → Prop, (∀ ρ2 st2, P (pre ++ [a]) (tidy ks ρ1 st ρ2 st2).1 (tidy ks ρ1 st ρ2 st2).2 → N ρ2 st2) → Turn N (body ρ1 st))
    (hc : ∀ ρ st, P items ρ st → chk st) (he : ∀ ρ st, P items ρ st → N ρ st) : Turn N (sFor src tg body ks ρ st) := for_lst_turn0 f items P hr h0 hs hc he
end
/-! ### dicts, evaluated -/
section
variable {κ : Type} [DecidableEq κ]
theorem getK_nil (k : κ) : getK ([] : List (κ × D)) k = none := rfl
theorem getK_cons (p : κ × D) (kvs : List (κ × D)) (k : κ) : getK (p :: kvs) k = if p.1 = k then some p.2 else getK kvs k := by
  unfold getK
  rw [List.find?_cons]
  by_cases h : p.1 = k <;> simp [h]
theorem getK_append (a b : List (κ × D)) (k : κ) : getK (a ++ b) k = (getK a k).or (getK b k) := by
  induction a with
  | nil => simp [getK_nil]
  | cons p a ih => rw [List.cons_append, getK_cons, getK_cons, ih]; split <;> simp
theorem getK_any (kvs : List (κ × D)) (k : κ) : (kvs.any fun kv => decide (kv.1 = k)) = (getK kvs k).isSome := by
  induction kvs with
  | nil => rfl
  | cons p a ih => rw [List.any_cons, getK_cons, ih]; by_cases h : p.1 = k <;> simp [h]
theorem getK_map (kvs : List (κ × D)) (k k' : κ) (d : D) : getK (kvs.map fun kv => if kv.1 = k then (kv.1, d) else kv) k' = if k' = k then (getK kvs k').map (fun _ => d) else getK kvs k' := by
  induction kvs with
  | nil => simp [getK_nil]
  | cons p a ih =>
    rw [List.map_cons, getK_cons, getK_cons, ih]
    by_cases h : p.1 = k
    · by_cases h' : k = k'
      · subst h'; simp [h]
      · simp [h, h', Ne.symm h']
    · by_cases h' : p.1 = k'
      · have : k' ≠ k := fun e => h (h'.trans e)
        simp [h, h', this]
      · simp [h, h']
theorem getK_set (kvs : List (κ × D)) (k k' : κ) (d : D) : getK (setK kvs k d) k' = if k' = k then some d else getK kvs k' := by
  unfold setK
  rw [getK_any]
  split
  · rename_i h
    rw [getK_map]
    by_cases e : k' = k
    · subst e
      rw [if_pos rfl, if_pos rfl]
      obtain ⟨x, hx⟩ := Option.isSome_iff_exists.mp h
      rw [hx]; rfl
    · rw [if_neg e, if_neg e]
  · rename_i h
    rw [getK_append, getK_cons, getK_nil]
    by_cases e : k' = k
    · subst e
      have hn : getK kvs k' = none := by
        cases g : getK kvs k' with
        | none => rfl
        | some x => rw [g] at h; exact absurd rfl h
      simp [hn]
    · simp [e, Ne.symm e]
theorem setK_len (kvs : List (κ × D)) (k : κ) (d : D) : (setK kvs k d).length ≤ kvs.length + 1 := by
  unfold setK
  split <;> simp
theorem setK_lim (kvs : List (κ × D)) (k : κ) (d : D) (n : Nat) (h : (kvs.all fun p => p.2.lim n) = true) (hd : d.lim n = true) : ((setK kvs k d).all fun p => p.2.lim n) = true := by
  rw [List.all_eq_true] at *
  intro p hp
  unfold setK at hp
  split at hp
  · obtain ⟨q, hq, e⟩ := List.mem_map.mp hp
    subst e
    split
    · exact hd
    · exact h q hq
  · rcases List.mem_append.mp hp with z | z
    · exact h p z
    · simp at z; subst z; exact hd
end
@[simp] theorem olim_dt (kvs : List (List Key × D)) (n : Nat) : O.lim (.dt kvs) n = kvs.all fun p => p.2.lim n := rfl
@[simp] theorem olim_dk (kvs : List (Key × D)) (n : Nat) : O.lim (.dk kvs) n = kvs.all fun p => p.2.lim n := rfl
@[simp] theorem ev_newK (ρ : En) (st : Sto) : dNewK ρ st = .ok (.new (.dk [])) st := id rfl
@[simp] theorem ev_newT (ρ : En) (st : Sto) : dNewT ρ st = .ok (.new (.dt [])) st := id rfl
def putAt (o i : R) (d : D) (ρ : En) (st3 : Sto) : SO := match o, i with
  | .val (.loc n), .val e => match st3[n]? with
    | some (.lst ds) => match e with
      | .int k => match ixN ds.length k with
        | some j => .nx ρ (st3.set n (.lst (ds.set j d)))
        | none => .bad
      | _ => .bad
    | some (.dk kvs) => match keyD e with
      | some k => if kvs.length < 1000000 then .nx ρ (st3.set n (.dk (setK kvs k d))) else .bad
      | none => .bad
    | some (.dt kvs) => match e with
      | .tup ds => match keysD ds with
        | some k => if kvs.length < 1000000 then .nx ρ (st3.set n (.dt (setK kvs k d))) else .bad
        | none => .bad
      | _ => .bad
    | _ => .bad
  | _, _ => .bad
@[simp] theorem ev_put (fv fo fi : DE) (ρ : En) (st : Sto) : sPut fv fo fi ρ st = SO.of ρ (fv ρ st) fun r st1 => SO.of ρ (fo ρ (toD r st1).2) fun o st2 => SO.of ρ (fi ρ st2) fun i st3 => putAt o i (toD r st1).1 ρ st3 := id rfl
theorem putAt_dt {n : Nat} {ds : List D} {d : D} {ρ : En} {st : Sto} {kvs : List (List Key × D)} {k : List Key} (h : st[n]? = some (.dt kvs)) (hk : keysD ds = some k) (hl : kvs.length < 1000000) : putAt (.val (.loc n)) (.val (.tup ds)) d ρ st = .nx ρ (st.set n (.dt (setK kvs k d))) := by
  simp only [putAt, h, hk, if_pos hl]
theorem putAt_dk {n : Nat} {e : D} {d : D} {ρ : En} {st : Sto} {kvs : List (Key × D)} {k : Key} (h : st[n]? = some (.dk kvs)) (hk : keyD e = some k) (hl : kvs.length < 1000000) : putAt (.val (.loc n)) (.val e) d ρ st = .nx ρ (st.set n (.dk (setK kvs k d))) := by
  simp only [putAt, h, hk, if_pos hl]
theorem putAt_lst {n : Nat} {i : Int} {j : Nat} {d : D} {ρ : En} {st : Sto} {ds : List D} (h : st[n]? = some (.lst ds)) (hk : ixN ds.length i = some j) : putAt (.val (.loc n)) (.val (.int i)) d ρ st = .nx ρ (st.set n (.lst (ds.set j d))) := by
  simp only [putAt, h, hk]
theorem gGet2_dt {n : Nat} {ds : List D} {e : D} {st : Sto} {kvs : List (List Key × D)} {k : List Key} (h : st[n]? = some (.dt kvs)) (hk : keysD ds = some k) : gGet2 (.val (.loc n)) [.val (.tup ds), .val e] st = .ok (.val ((getK kvs k).getD e)) st := by
  simp only [gGet2, asDk, asDt, h, hk]
theorem gGet2_dk {n : Nat} {d : D} {e : D} {st : Sto} {kvs : List (Key × D)} {k : Key} (h : st[n]? = some (.dk kvs)) (hk : keyD d = some k) : gGet2 (.val (.loc n)) [.val d, .val e] st = .ok (.val ((getK kvs k).getD e)) st := by
  simp only [gGet2, asDk, h, hk]
end MM
namespace Law
open PySem PySem.Spec PyProof.Rows L2 MM
noncomputable def F_spread : FD := dFn 17 (sSeq (sSet 1 (dIf (tTru (dV 0)) (dCB gLen (aCons (dBin gIx (dV 0) (dC (.int 0))) (aNil))) (dC (.int 0)))) (sSeq (sSet 2 (dLc (iSeq (dV 0)) (.nm 3) (tYes') (dLc (iSeq (dV 3)) (.nm 4) (tYes') (dCall F_minus (aCons (dC (.kt [(.int 1), (.int 1)])) (aCons (dV 4) (aNil)))) [4]) [3])) (sSeq (sSet 5 (dLst (aNil))) (sSeq (sSet 6 (dC (.kt [(.int 0), (.int 1)]))) (sSeq (sFor (iRange1 (aCons (dCB gLen (aCons (dV 0) (aNil))) (aNil))) (.nm 7) (sSeq (sSet 8 (dLst (aNil))) (sSeq (sFor (iRange1 (aCons (dV 1) (aNil))) (.nm 9) (sSeq (sSet 10 (dBin gIx (dBin gIx (dV 2) (dV 7)) (dV 9))) (sSeq (sSet 11 (dCB gInt (aCons (dUn gNotB (dCall F_is_less (aCons (dV 10) (aCons (dC (.kt [(.int 1), (.int 2)])) (aNil))))) (aNil)))) (sSeq (sDrop (dBM .lst gAppend (dV 8) (aCons (dV 11) (aNil)))) (sSeq (sSet 12 (dCall F_minus (aCons (dV 10) (aCons (dTup (aCons (dV 11) (aCons (dC (.int 1)) (aNil)))) (aNil))))) (sFor (iSeq (dC (.kt [(.kt [(.int 1), (.int 0), (.kt [(.int 7), (.int 16)])]), (.kt [(.int (-1)), (.int 1), (.kt [(.int 3), (.int 16)])]), (.kt [(.int 0), (.int 1), (.kt [(.int 5), (.int 16)])]), (.kt [(.int 1), (.int 1), (.kt [(.int 1), (.int 16)])])]))) (.tp [.nm 13, .nm 14, .nm 15]) (sSeq (sSet 16 (dCall F_times (aCons (dV 12) (aCons (dV 15) (aNil))))) (sIf (tAnd' (tOfB (dChain gLe gLt (dC (.int 0)) (dBin gAdd (dV 9) (dV 13)) (dV 1))) (tOfB (dBin gLt (dBin gAdd (dV 7) (dV 14)) (dCB gLen (aCons (dV 0) (aNil)))))) (sIx (dCall F_plus (aCons (dBin gIx (dBin gIx (dV 2) (dBin gAdd (dV 7) (dV 14))) (dBin gAdd (dV 9) (dV 13))) (aCons (dV 16) (aNil)))) (dBin gIx (dV 2) (dBin gAdd (dV 7) (dV 14))) (dBin gAdd (dV 9) (dV 13))) (sSet 6 (dCall F_plus (aCons (dV 6) (aCons (dV 16) (aNil))))))) [13, 14, 15, 16]))))) [9, 10, 11, 12, 13, 14, 15, 16]) (sDrop (dBM .lst gAppend (dV 5) (aCons (dCB gTuple (aCons (dV 8) (aNil))) (aNil)))))) [7, 8, 9, 10, 11, 12, 13, 14, 15, 16]) (sRet (dTup (aCons (dCB gTuple (aCons (dV 5) (aNil))) (aCons (dV 6) (aNil))))))))))
noncomputable def F_inked : FD := dFn 4 (sSeq (sSet 1 (dC (.kt [(.int 0), (.int 1)]))) (sSeq (sFor (iSeq (dV 0)) (.nm 2) (sFor (iSeq (dV 2)) (.nm 3) (sSet 1 (dCall F_plus (aCons (dV 1) (aCons (dCall F_minus (aCons (dC (.kt [(.int 1), (.int 1)])) (aCons (dV 3) (aNil)))) (aNil))))) [3]) [2, 3]) (sRet (dV 1))))
noncomputable def B__law_same (n : Nat) (F : FD) : FD := dFn 4 (sSeq (sIf (tOr' (tAnd' (tTru (dCB gIsi (aCons (dV 0) (aCons (dC (.ty .tup)) (aNil))))) (tTru (dCB gIsi (aCons (dV 1) (aCons (dC (.ty .tup)) (aNil)))))) (tAnd' (tTru (dCB gIsi (aCons (dV 0) (aCons (dC (.ty .lst)) (aNil))))) (tTru (dCB gIsi (aCons (dV 1) (aCons (dC (.ty .lst)) (aNil))))))) (sRet (dAnd (dBin gEq (dCB gLen (aCons (dV 0) (aNil))) (dCB gLen (aCons (dV 1) (aNil)))) (dCB gAll (aCons (dLc (iRange1 (aCons (dCB gLen (aCons (dV 0) (aNil))) (aNil))) (.nm 2) (tYes') (dCall F (aCons (dBin gIx (dV 0) (dV 2)) (aCons (dBin gIx (dV 1) (dV 2)) (aNil)))) [2]) (aNil))))) (sNil)) (sSeq (sIf (tAnd' (tTru (dCB gIsi (aCons (dV 0) (aCons (dC (.ty .dic)) (aNil))))) (tTru (dCB gIsi (aCons (dV 1) (aCons (dC (.ty .dic)) (aNil)))))) (sBad) (sNil)) (sSeq (sIf (tOr' (tAnd' (tTru (dCB gIsi (aCons (dV 0) (aCons (dC (.ty .str)) (aNil))))) (tTru (dCB gIsi (aCons (dV 1) (aCons (dC (.ty .str)) (aNil)))))) (tAnd' (tOfB (dBin gIs (dV 0) (dC .non))) (tOfB (dBin gIs (dV 1) (dC .non))))) (sRet (dBin gEq (dV 0) (dV 1))) (sNil)) (sSeq (sIf (tOr' (tNot' (tTru (dCB gIsi (aCons (dV 0) (aCons (dC (.ty .int)) (aNil)))))) (tNot' (tTru (dCB gIsi (aCons (dV 1) (aCons (dC (.ty .int)) (aNil))))))) (sRet (dC (.bl false))) (sNil)) (sRet (dAnd (dBin gEq (dV 0) (dV 1)) (dBin gEq (dCB gIsi (aCons (dV 0) (aCons (dC (.ty .bl)) (aNil)))) (dCB gIsi (aCons (dV 1) (aCons (dC (.ty .bl)) (aNil)))))))))))
noncomputable def F__law_spread : FD := dFn 13 (sSeq (sSet 1 (dNewT)) (sSeq (sSet 2 (dTup (aCons (dC (.int 0)) (aCons (dC (.int 1)) (aNil))))) (sSeq (sSet 3 (dLst (aNil))) (sSeq (sFor (iRange1 (aCons (dCB gLen (aCons (dV 0) (aNil))) (aNil))) (.nm 4) (sSeq (sSet 5 (dLst (aNil))) (sSeq (sFor (iRange1 (aCons (dCB gLen (aCons (dBin gIx (dV 0) (dC (.int 0))) (aNil))) (aNil))) (.nm 6) (sSeq (sSet 7 (dCall F__law_add (aCons (dCall F__law_add (aCons (dTup (aCons (dC (.int 1)) (aCons (dC (.int 1)) (aNil)))) (aCons (dCall F__law_neg (aCons (dBin gIx (dBin gIx (dV 0) (dV 4)) (dV 6)) (aNil))) (aNil)))) (aCons (dBM .dic gGet2 (dV 1) (aCons (dTup (aCons (dV 6) (aCons (dV 4) (aNil)))) (aCons (dTup (aCons (dC (.int 0)) (aCons (dC (.int 1)) (aNil)))) (aNil)))) (aNil))))) (sSeq (sSet 8 (dCB gInt (aCons (dBin gGe (dBin gMul (dC (.int 2)) (dBin gIx (dV 7) (dC (.int 0)))) (dBin gIx (dV 7) (dC (.int 1)))) (aNil)))) (sSeq (sDrop (dBM .lst gAppend (dV 5) (aCons (dV 8) (aNil)))) (sSeq (sSet 9 (dCall F__law_add (aCons (dV 7) (aCons (dTup (aCons (dUn gNeg (dV 8)) (aCons (dC (.int 1)) (aNil)))) (aNil))))) (sFor (iSeq (dTup (aCons (dTup (aCons (dTup (aCons (dBin gAdd (dV 6) (dC (.int 1))) (aCons (dV 4) (aNil)))) (aCons (dC (.int 7)) (aNil)))) (aCons (dTup (aCons (dTup (aCons (dBin gSub (dV 6) (dC (.int 1))) (aCons (dBin gAdd (dV 4) (dC (.int 1))) (aNil)))) (aCons (dC (.int 3)) (aNil)))) (aCons (dTup (aCons (dTup (aCons (dV 6) (aCons (dBin gAdd (dV 4) (dC (.int 1))) (aNil)))) (aCons (dC (.int 5)) (aNil)))) (aCons (dTup (aCons (dTup (aCons (dBin gAdd (dV 6) (dC (.int 1))) (aCons (dBin gAdd (dV 4) (dC (.int 1))) (aNil)))) (aCons (dC (.int 1)) (aNil)))) (aNil))))))) (.tp [.nm 10, .nm 11]) (sSeq (sSet 12 (dCall F__law_mul (aCons (dV 9) (aCons (dTup (aCons (dV 11) (aCons (dC (.int 16)) (aNil)))) (aNil))))) (sIf (tAnd' (tOfB (dChain gLe gLt (dC (.int 0)) (dBin gIx (dV 10) (dC (.int 0))) (dCB gLen (aCons (dBin gIx (dV 0) (dC (.int 0))) (aNil))))) (tOfB (dBin gLt (dBin gIx (dV 10) (dC (.int 1))) (dCB gLen (aCons (dV 0) (aNil)))))) (sPut (dCall F__law_add (aCons (dBM .dic gGet2 (dV 1) (aCons (dV 10) (aCons (dTup (aCons (dC (.int 0)) (aCons (dC (.int 1)) (aNil)))) (aNil)))) (aCons (dV 12) (aNil)))) (dV 1) (dV 10)) (sSet 2 (dCall F__law_add (aCons (dV 2) (aCons (dV 12) (aNil))))))) [10, 11, 12]))))) [6, 7, 8, 9, 10, 11, 12]) (sDrop (dBM .lst gAppend (dV 3) (aCons (dCB gTuple (aCons (dV 5) (aNil))) (aNil)))))) [4, 5, 6, 7, 8, 9, 10, 11, 12]) (sRet (dTup (aCons (dCB gTuple (aCons (dV 3) (aNil))) (aCons (dV 2) (aNil)))))))))
noncomputable def F_law : FD := dFn 13 (sSeq (sSet 1 (dCall F__law_stream (aCons (dV 0) (aNil)))) (sSeq (sSet 2 (dBin gAdd (dC (.int 1)) (dCall F__law_draw (aCons (dV 1) (aCons (dC (.int 6)) (aNil)))))) (sSeq (sSet 3 (dLst (aCons (dTup (aCons (dC (.int 0)) (aCons (dC (.int 1)) (aNil)))) (aCons (dTup (aCons (dC (.int 1)) (aCons (dC (.int 1)) (aNil)))) (aCons (dTup (aCons (dC (.int 1)) (aCons (dC (.int 2)) (aNil)))) (aCons (dTup (aCons (dC (.int 1)) (aCons (dC (.int 3)) (aNil)))) (aCons (dTup (aCons (dC (.int 4)) (aCons (dC (.int 5)) (aNil)))) (aNil)))))))) (sSeq (sIf (tOfB (dBin gEq (dCall F__law_draw (aCons (dV 1) (aCons (dC (.int 4)) (aNil)))) (dC (.int 0)))) (sSet 3 (dSl (dV 3) (oNone) (oSome (dC (.int 2))))) (sNil)) (sSeq (sSet 4 (dCB gTuple (aCons (dLc (iRange1 (aCons (dCall F__law_draw (aCons (dV 1) (aCons (dC (.int 6)) (aNil)))) (aNil))) (.nm 5) (tYes') (dCB gTuple (aCons (dLc (iRange1 (aCons (dV 2) (aNil))) (.nm 6) (tYes') (dCall F__law_pick (aCons (dV 1) (aCons (dV 3) (aNil)))) [6]) (aNil))) [5]) (aNil)))) (sSeq (sSet 7 (dCall F_spread (aCons (dV 4) (aNil)))) (sSeq (sIf (tNot' (tTru (dCall (F__law_same 12) (aCons (dV 7) (aCons (dCall F__law_spread (aCons (dV 4) (aNil))) (aNil)))))) (sRet (dC (.bl false))) (sNil)) (sSeq (sSet 8 (dTup (aCons (dC (.int 0)) (aCons (dC (.int 1)) (aNil))))) (sSeq (sSet 9 (dC (.int 0))) (sSeq (sFor (iRange1 (aCons (dCB gLen (aCons (dV 4) (aNil))) (aNil))) (.nm 5) (sFor (iRange1 (aCons (dV 2) (aNil))) (.nm 6) (sSeq (sSet 8 (dCall F__law_add (aCons (dV 8) (aCons (dCall F__law_add (aCons (dTup (aCons (dC (.int 1)) (aCons (dC (.int 1)) (aNil)))) (aCons (dCall F__law_neg (aCons (dBin gIx (dBin gIx (dV 4) (dV 5)) (dV 6)) (aNil))) (aNil)))) (aNil))))) (sSet 9 (dBin gAdd (dV 9) (dBin gIx (dBin gIx (dBin gIx (dV 7) (dC (.int 0))) (dV 5)) (dV 6))))) [6]) [5, 6]) (sSeq (sIf (tOr' (tNot' (tTru (dCall (F__law_same 12) (aCons (dCall F_inked (aCons (dV 4) (aNil))) (aCons (dV 8) (aNil)))))) (tNot' (tTru (dCall (F__law_same 12) (aCons (dV 8) (aCons (dCall F__law_add (aCons (dTup (aCons (dV 9) (aCons (dC (.int 1)) (aNil)))) (aCons (dBin gIx (dV 7) (dC (.int 1))) (aNil)))) (aNil))))))) (sRet (dC (.bl false))) (sNil)) (sSeq (sIf (tOfB (dBin gEq (dCB gLen (aCons (dV 3) (aNil))) (dC (.int 2)))) (sSeq (sSet 10 (dCB gTuple (aCons (dLc (iSeq (dV 4)) (.nm 11) (tYes') (dCB gTuple (aCons (dLc (iSeq (dV 11)) (.nm 12) (tYes') (dBin gSub (dC (.int 1)) (dBin gIx (dV 12) (dC (.int 0)))) [12]) (aNil))) [11]) (aNil)))) (sRet (dCall (F__law_same 12) (aCons (dV 7) (aCons (dTup (aCons (dV 10) (aCons (dTup (aCons (dC (.int 0)) (aCons (dC (.int 1)) (aNil)))) (aNil)))) (aNil)))))) (sNil)) (sRet (dC (.bl true)))))))))))))))
end Law
namespace Law
open PySem PySem.Spec PyProof.Rows L2 MM
open Enc (enc)
/-! ### spreading, on a grid that is a function -/
abbrev Gr := Nat → Nat → Rat
structure Sp where
  L : Gr
  lost : Rat
def updG (L : Gr) (x y : Nat) (v : Rat) : Gr := fun a b => if a = x ∧ b = y then v else L a b
def putS (w h : Nat) (s : Sp) (X Y : Int) (p : Rat) : Sp := if 0 ≤ X ∧ X < w ∧ Y < h then ⟨updG s.L X.toNat Y.toNat (s.L X.toNat Y.toNat + p), s.lost⟩ else ⟨s.L, s.lost + p⟩
def shares : List (Int × Int × Int) := [(1, 0, 7), (-1, 1, 3), (0, 1, 5), (1, 1, 1)]
def dotS (q : Rat) : Int := if q < 1 / 2 then 0 else 1
def parts (w h : Nat) (x y : Nat) (rest : Rat) (s : Sp) (l : List (Int × Int × Int)) : Sp := l.foldl (fun s p => putS w h s (x + p.1) (y + p.2.1) (rest * Rat.divInt p.2.2 16)) s
def restS (s : Sp) (x y : Nat) : Rat := s.L x y - (dotS (s.L x y) : Rat)
def stepS (w h : Nat) (s : Sp) (x y : Nat) : Sp := parts w h x y (restS s x y) s shares
def rowS (w h y : Nat) : Nat → Sp → Sp
  | 0, s => s
  | k + 1, s => stepS w h (rowS w h y k s) k y
def runS (w h : Nat) : Nat → Sp → Sp
  | 0, s => s
  | j + 1, s => rowS w h j w (runS w h j s)
/-- sums over a row, over the grid -/
def sumR (w : Nat) (f : Nat → Rat) : Rat := match w with
  | 0 => 0
  | k + 1 => sumR k f + f k
theorem sumR_succ (k : Nat) (f : Nat → Rat) : sumR (k + 1) f = sumR k f + f k := rfl
theorem sumR_zero (f : Nat → Rat) : sumR 0 f = 0 := rfl
def sumG (w h : Nat) (L : Gr) : Rat := sumR h fun y => sumR w fun x => L x y
theorem sumR_congr {w : Nat} {f g : Nat → Rat} (h : ∀ x, x < w → f x = g x) : sumR w f = sumR w g := by
  induction w with
  | zero => rfl
  | succ k ih => unfold sumR; rw [ih fun x hx => h x (by omega), h k (by omega)]
theorem sumR_upd {w : Nat} {f : Nat → Rat} {x : Nat} {v : Rat} (h : x < w) : sumR w (fun a => if a = x then v else f a) = sumR w f - f x + v := by
  induction w with
  | zero => omega
  | succ k ih =>
    unfold sumR
    by_cases e : x = k
    · subst e
      rw [if_pos rfl, sumR_congr (g := f) fun a ha => if_neg (by omega)]
      grind
    · rw [if_neg (by omega), ih (by omega)]
      grind
theorem sumG_upd {w h : Nat} {L : Gr} {x y : Nat} {v : Rat} (hx : x < w) (hy : y < h) : sumG w h (updG L x y v) = sumG w h L - L x y + v := by
  unfold sumG
  have e : ∀ b, sumR w (fun a => updG L x y v a b) = if b = y then sumR w (fun a => L a y) - L x y + v else sumR w fun a => L a b := by
    intro b
    by_cases hb : b = y
    · subst hb
      rw [if_pos rfl, ← sumR_upd hx]
      exact sumR_congr fun a _ => by simp [updG]
    · rw [if_neg hb]
      exact sumR_congr fun a _ => by simp [updG, hb]
  rw [sumR_congr (g := fun b => if b = y then sumR w (fun a => L a y) - L x y + v else sumR w fun a => L a b) fun b _ => e b, sumR_upd hy]
  grind
theorem put_sum {w h : Nat} {s : Sp} {X Y : Int} {p : Rat} (hY : 0 ≤ Y) : sumG w h (putS w h s X Y p).L + (putS w h s X Y p).lost = sumG w h s.L + s.lost + p := by
  unfold putS
  split
  · rename_i c
    simp only
    rw [sumG_upd (by omega) (by omega)]
    grind
  · simp only
    grind
theorem parts_sum {w h x y : Nat} {rest : Rat} : ∀ {l : List (Int × Int × Int)} {s : Sp}, (∀ p ∈ l, 0 ≤ p.2.1) → sumG w h (parts w h x y rest s l).L + (parts w h x y rest s l).lost = sumG w h s.L + s.lost + rest * (l.map fun p => Rat.divInt p.2.2 16).sum
  | [], s, _ => by simp [parts]; grind
  | p :: l, s, hl => by
    have ih := parts_sum (w := w) (h := h) (x := x) (y := y) (rest := rest) (l := l) (s := putS w h s (x + p.1) (y + p.2.1) (rest * Rat.divInt p.2.2 16)) fun q hq => hl q (List.mem_cons_of_mem _ hq)
    have h1 := hl p List.mem_cons_self
    have h2 := put_sum (w := w) (h := h) (s := s) (X := x + p.1) (Y := y + p.2.1) (p := rest * Rat.divInt p.2.2 16) (by omega)
    have e : parts w h x y rest s (p :: l) = parts w h x y rest (putS w h s (x + p.1) (y + p.2.1) (rest * Rat.divInt p.2.2 16)) l := rfl
    rw [e, ih, h2, List.map_cons, List.sum_cons]
    grind
theorem shares_sum : (shares.map fun p => Rat.divInt p.2.2 16).sum = 1 := by decide +kernel
theorem step_sum {w h x y : Nat} {s : Sp} : sumG w h (stepS w h s x y).L + (stepS w h s x y).lost = sumG w h s.L + s.lost + restS s x y := by
  unfold stepS
  rw [parts_sum (by decide), shares_sum]
  grind
/-- what comes behind is not what was -/
theorem put_at {w h : Nat} {s : Sp} {X Y : Int} {p : Rat} {a b : Nat} (h1 : ¬ ((a : Int) = X ∧ (b : Int) = Y)) (hY : 0 ≤ Y) : (putS w h s X Y p).L a b = s.L a b := by
  unfold putS
  split
  · simp only [updG]
    rw [if_neg]
    intro z
    omega
  · rfl
theorem step_at {w h x y : Nat} {s : Sp} {a b : Nat} (h1 : b < y ∨ (b = y ∧ a ≤ x)) : (stepS w h s x y).L a b = s.L a b := by
  unfold stepS parts shares
  simp only [List.foldl_cons, List.foldl_nil]
  rw [put_at (by omega) (by omega), put_at (by omega) (by omega), put_at (by omega) (by omega), put_at (by omega) (by omega)]
theorem row_at {w h y : Nat} {s : Sp} {a b : Nat} : ∀ {k : Nat} {j : Nat}, j ≤ k → (b < y ∨ (b = y ∧ a < j)) → (rowS w h y k s).L a b = (rowS w h y j s).L a b
  | 0, j, hj, _ => by rw [show j = 0 by omega]
  | k + 1, j, hj, h1 => by
    by_cases e : j = k + 1
    · rw [e]
    · show (stepS w h (rowS w h y k s) k y).L a b = _
      rw [step_at (by omega)]
      exact row_at (by omega) h1
theorem run_at {w h : Nat} {s : Sp} {a b : Nat} : ∀ {k : Nat} {j : Nat}, j ≤ k → b < j → (runS w h k s).L a b = (runS w h j s).L a b
  | 0, j, hj, _ => by rw [show j = 0 by omega]
  | k + 1, j, hj, h1 => by
    by_cases e : j = k + 1
    · rw [e]
    · show (rowS w h k w (runS w h k s)).L a b = _
      rw [row_at (j := 0) (by omega) (by omega)]
      exact run_at (by omega) h1
/-- the dots -/
def dotAt (w h : Nat) (s : Sp) (x y : Nat) : Int := dotS ((rowS w h y x (runS w h y s)).L x y)
theorem row_sum {w h y : Nat} {s : Sp} : ∀ k, k ≤ w → sumG w h (rowS w h y k s).L + (rowS w h y k s).lost = sumG w h s.L + s.lost + sumR k fun x => (rowS w h y w s).L x y - (dotS ((rowS w h y x s).L x y) : Rat)
  | 0, _ => by simp [rowS, sumR]; grind
  | k + 1, hk => by
    have ih := row_sum (w := w) (h := h) (y := y) (s := s) k (by omega)
    show sumG w h (stepS w h (rowS w h y k s) k y).L + (stepS w h (rowS w h y k s) k y).lost = _
    rw [step_sum, ih, sumR_succ]
    have e : (rowS w h y w s).L k y = (rowS w h y k s).L k y := by
      rw [row_at (j := k + 1) (by omega) (.inr ⟨rfl, by omega⟩)]
      exact step_at (.inr ⟨rfl, Nat.le_refl _⟩)
    rw [e]
    unfold restS
    grind
theorem run_sum {w h : Nat} {s : Sp} : ∀ j, j ≤ h → sumG w h (runS w h j s).L + (runS w h j s).lost = sumG w h s.L + s.lost + sumR j fun y => sumR w fun x => (runS w h h s).L x y - (dotAt w h s x y : Rat)
  | 0, _ => by simp [runS, sumR]; grind
  | j + 1, hj => by
    have ih := run_sum (w := w) (h := h) (s := s) j (by omega)
    show sumG w h (rowS w h j w (runS w h j s)).L + (rowS w h j w (runS w h j s)).lost = _
    rw [row_sum w (Nat.le_refl _), ih]
    have e : sumR w (fun x => (rowS w h j w (runS w h j s)).L x j - (dotS ((rowS w h j x (runS w h j s)).L x j) : Rat)) = sumR w fun x => (runS w h h s).L x j - (dotAt w h s x j : Rat) := by
      refine sumR_congr fun x hx => ?_
      rw [run_at (k := h) (j := j + 1) (by omega) (by omega)]
      rfl
    rw [e]
    show _ = sumG w h s.L + s.lost + (sumR j _ + _)
    grind
theorem sumR_sub {w : Nat} {f g : Nat → Rat} : sumR w (fun x => f x - g x) = sumR w f - sumR w g := by
  induction w with
  | zero => rw [sumR_zero, sumR_zero, sumR_zero]; grind
  | succ k ih => rw [sumR_succ, sumR_succ, sumR_succ, ih]; grind
/-- what is wanted in all is the dots and what is lost -/
theorem spread_all {w h : Nat} {L : Gr} : sumG w h L = (sumR h fun y => sumR w fun x => (dotAt w h ⟨L, 0⟩ x y : Rat)) + (runS w h h ⟨L, 0⟩).lost := by
  have h1 := run_sum (w := w) (h := h) (s := ⟨L, 0⟩) h (Nat.le_refl _)
  have h2 : (sumR h fun y => sumR w fun x => (runS w h h ⟨L, 0⟩).L x y - (dotAt w h ⟨L, 0⟩ x y : Rat)) = sumG w h (runS w h h ⟨L, 0⟩).L - sumR h fun y => sumR w fun x => (dotAt w h ⟨L, 0⟩ x y : Rat) := by
    unfold sumG
    rw [← sumR_sub]
    exact sumR_congr fun y _ => sumR_sub
  rw [h2] at h1
  simp only at h1
  grind
/-! how great numbers become -/
def Bnd (w h N M : Nat) (s : Sp) : Prop := (∀ x y, x < w → y < h → Rn N M (s.L x y)) ∧ Rn N M s.lost
theorem Rn.le {N M M' : Nat} {q : Rat} (h : Rn N M q) (hm : M ≤ M') : Rn N M' q := h.mono hm
theorem put_bnd {w h N M P : Nat} {s : Sp} {X Y : Int} {p : Rat} (hN : 0 < N) (hs : Bnd w h N M s) (hp : Rn N P p) : Bnd w h N (M + P) (putS w h s X Y p) := by
  unfold putS
  split
  · rename_i c
    refine ⟨fun x y hx hy => ?_, hs.2.mono (by omega)⟩
    simp only [updG]
    split
    · rename_i e
      obtain ⟨e1, e2⟩ := e
      subst e1 e2
      exact (hs.1 _ _ hx hy).add hN hp
    · exact (hs.1 _ _ hx hy).mono (by omega)
  · exact ⟨fun x y hx hy => (hs.1 _ _ hx hy).mono (by omega), hs.2.add hN hp⟩
def Small16 (l : List (Int × Int × Int)) : Prop := ∀ p ∈ l, p.2.2.natAbs ≤ 7
theorem share_rn {n : Int} (h : n.natAbs ≤ 7) : Rn 16 7 (Rat.divInt n 16) := ⟨n, rfl, h⟩
theorem parts_bnd {w h N R x y : Nat} {rest : Rat} (hN : 0 < N) (hr : Rn N R rest) : ∀ {l : List (Int × Int × Int)} {s : Sp} {M : Nat}, Small16 l → Bnd w h (N * 16) M s → Bnd w h (N * 16) (M + l.length * (R * 7)) (parts w h x y rest s l)
  | [], s, M, _, hs => by simpa [parts] using hs
  | p :: l, s, M, hl, hs => by
    have h1 : Rn (N * 16) (R * 7) (rest * Rat.divInt p.2.2 16) := hr.mul (share_rn (hl p List.mem_cons_self))
    have h2 := put_bnd (X := x + p.1) (Y := y + p.2.1) (by omega) hs h1
    have h3 := parts_bnd (x := x) (y := y) hN hr (l := l) (fun q hq => hl q (List.mem_cons_of_mem _ hq)) h2
    have e : M + (p :: l).length * (R * 7) = M + R * 7 + l.length * (R * 7) := by
      rw [List.length_cons, Nat.succ_mul]; omega
    rw [e]
    exact h3
theorem Bnd.lift {w h N M : Nat} {s : Sp} (hN : 0 < N) (hs : Bnd w h N M s) : Bnd w h (N * 16) (M * 16) s := ⟨fun x y hx hy => (hs.1 x y hx hy).lift 16 hN (by decide), hs.2.lift 16 hN (by decide)⟩
theorem dot_rn (N : Nat) (hN : 0 < N) (q : Rat) : Rn N N (dotS q : Rat) := by
  unfold dotS
  split
  · exact ⟨0, by simp, by simp⟩
  · refine ⟨N, ?_, by simp⟩
    rw [show ((1 : Int) : Rat) = Rat.divInt 1 1 from rfl, Rat.divInt_eq_divInt_iff (by decide) (by omega)]
    omega
theorem rest_rn {w h N M x y : Nat} {s : Sp} (hN : 0 < N) (hs : Bnd w h N M s) (hx : x < w) (hy : y < h) : Rn N (M + N) (restS s x y) := (hs.1 x y hx hy).sub hN (dot_rn N hN _)
theorem small_shares : Small16 shares := show ∀ p ∈ shares, p.2.2.natAbs ≤ 7 by decide
theorem step_bnd {w h N M x y : Nat} {s : Sp} (hN : 0 < N) (hs : Bnd w h N M s) (hx : x < w) (hy : y < h) : Bnd w h (N * 16) (M * 16 + 4 * ((M + N) * 7)) (stepS w h s x y) :=
  parts_bnd hN (rest_rn hN hs hx hy) (l := shares) small_shares (hs.lift hN)
def BndK (w h k : Nat) (s : Sp) : Prop := Bnd w h (30 * 16 ^ k) (30 * 100 ^ k) s
theorem Bnd.mono {w h N M M' : Nat} {s : Sp} (hs : Bnd w h N M s) (hm : M ≤ M') : Bnd w h N M' s := ⟨fun x y hx hy => (hs.1 x y hx hy).mono hm, hs.2.mono hm⟩
theorem pos16 (k : Nat) : 0 < 30 * 16 ^ k := Nat.mul_pos (by decide) (Nat.pow_pos (by decide))
theorem le100 (k : Nat) : 16 ^ k ≤ 100 ^ k := Nat.pow_le_pow_left (by decide) k
theorem stepK {w h k x y : Nat} {s : Sp} (hs : BndK w h k s) (hx : x < w) (hy : y < h) : BndK w h (k + 1) (stepS w h s x y) := by
  have h1 := step_bnd (pos16 k) hs hx hy
  unfold BndK
  rw [Nat.pow_succ, Nat.pow_succ, ← Nat.mul_assoc, ← Nat.mul_assoc]
  have := le100 k
  exact h1.mono (by omega)
theorem rowK {w h k y : Nat} {s : Sp} (hs : BndK w h k s) (hy : y < h) : ∀ x, x ≤ w → BndK w h (k + x) (rowS w h y x s)
  | 0, _ => hs
  | x + 1, hx => stepK (rowK hs hy x (by omega)) (by omega) hy
theorem runK {w h : Nat} {s : Sp} (hs : BndK w h 0 s) : ∀ y, y ≤ h → BndK w h (y * w) (runS w h y s)
  | 0, _ => by rw [Nat.zero_mul]; exact hs
  | y + 1, hy => by rw [Nat.succ_mul]; exact rowK (runK hs y (by omega)) (by omega) w (Nat.le_refl _)
theorem big16 {k : Nat} (h : k ≤ 40) : 30 * 16 ^ k < 2 ^ 500 := by
  have : 16 ^ k ≤ 16 ^ 40 := Nat.pow_le_pow_right (by decide) h
  have h2 : 30 * 16 ^ 40 < 2 ^ 500 := by decide
  omega
theorem big100 {k : Nat} (h : k ≤ 40) : 200000 * 100 ^ k < 2 ^ 500 := by
  have : 100 ^ k ≤ 100 ^ 40 := Nat.pow_le_pow_right (by decide) h
  have h2 : 200000 * 100 ^ 40 < 2 ^ 500 := by decide
  omega
theorem szK {k c : Nat} {q : Rat} (hk : k ≤ 40) (hc : c ≤ 200000) (h : Rn (30 * 16 ^ k) (c * 100 ^ k) q) : Sz 500 q :=
  h.sz (pos16 k) (big16 hk) (Nat.lt_of_le_of_lt (Nat.mul_le_mul_right _ hc) (big100 hk))
/-! grays 0 and 1 alone -/
theorem put_zero {w h : Nat} {s : Sp} {X Y : Int} : putS w h s X Y 0 = s := by
  unfold putS
  split
  · have e : updG s.L X.toNat Y.toNat (s.L X.toNat Y.toNat + 0) = s.L := by
      funext a b
      unfold updG
      split
      · rename_i c
        obtain ⟨c1, c2⟩ := c
        subst c1 c2
        grind
      · rfl
    rw [e]
  · rw [Rat.add_zero]
theorem dot_bin {q : Rat} (h : q = 0 ∨ q = 1) : (dotS q : Rat) = q := by
  rcases h with h | h <;> subst h <;> decide +kernel
theorem step_bin {w h x y : Nat} {s : Sp} (hb : s.L x y = 0 ∨ s.L x y = 1) : stepS w h s x y = s := by
  have hr : restS s x y = 0 := by
    unfold restS
    rw [dot_bin hb]
    grind
  unfold stepS
  rw [hr]
  have go : ∀ l : List (Int × Int × Int), parts w h x y 0 s l = s := by
    intro l
    induction l with
    | nil => rfl
    | cons p l ih =>
      show parts w h x y 0 (putS w h s (x + p.1) (y + p.2.1) (0 * Rat.divInt p.2.2 16)) l = s
      rw [Rat.zero_mul, put_zero, ih]
  exact go shares
theorem row_bin {w h y : Nat} {s : Sp} (hb : ∀ x, x < w → s.L x y = 0 ∨ s.L x y = 1) : ∀ k, k ≤ w → rowS w h y k s = s
  | 0, _ => rfl
  | k + 1, hk => by
    show stepS w h (rowS w h y k s) k y = s
    rw [row_bin hb k (by omega)]
    exact step_bin (hb k (by omega))
theorem run_bin {w h : Nat} {s : Sp} (hb : ∀ x y, x < w → y < h → s.L x y = 0 ∨ s.L x y = 1) : ∀ j, j ≤ h → runS w h j s = s
  | 0, _ => rfl
  | j + 1, hj => by
    show rowS w h j w (runS w h j s) = s
    rw [run_bin hb j (by omega)]
    exact row_bin (fun x hx => hb x j hx (by omega)) w (Nat.le_refl _)
end Law
namespace Law
open PySem PySem.Spec PyProof.Rows L2 MM
open Enc (enc)
/-- the rows of a grid, as objects -/
def rowD (w : Nat) (L : Gr) (y : Nat) : List D := (List.range w).map fun x => enc (L x y)
def gridO (w h : Nat) (L : Gr) : List O := (List.range h).map fun y => O.lst (rowD w L y)
@[simp] theorem gridO_len (w h : Nat) (L : Gr) : (gridO w h L).length = h := by simp [gridO]
@[simp] theorem rowD_len (w : Nat) (L : Gr) (y : Nat) : (rowD w L y).length = w := by simp [rowD]
theorem rowD_get {w x y : Nat} {L : Gr} (hx : x < w) : (rowD w L y)[x]? = some (enc (L x y)) := by simp [rowD, hx]
theorem gridO_get {w h y : Nat} {L : Gr} (hy : y < h) : (gridO w h L)[y]? = some (.lst (rowD w L y)) := by simp [gridO, hy]
theorem grid_row {st : Sto} {l : List O} {w h y : Nat} {L : Gr} (hy : y < h) : (st ++ (gridO w h L ++ l))[st.length + y]? = some (.lst (rowD w L y)) := by
  rw [getPk, List.getElem?_append_left (by rw [gridO_len]; exact hy), gridO_get hy]
theorem grid_rest {st : Sto} {l : List O} {w h j : Nat} {L : Gr} : (st ++ (gridO w h L ++ l))[st.length + (h + j)]? = l[j]? := by
  rw [getPk, List.getElem?_append_right (by rw [gridO_len]; omega), gridO_len, Nat.add_sub_cancel_left]
theorem grid_set_rest {st : Sto} {l : List O} {w h j : Nat} {L : Gr} {o : O} : (st ++ (gridO w h L ++ l)).set (st.length + (h + j)) o = st ++ (gridO w h L ++ l.set j o) := by
  rw [setPk, List.set_append_right _ _ (by rw [gridO_len]; omega), gridO_len, Nat.add_sub_cancel_left]
theorem rowD_upd {w x y : Nat} {L : Gr} {v : Rat} : (rowD w L y).set x (enc v) = rowD w (updG L x y v) y := by
  apply List.ext_getElem?
  intro i
  by_cases hi : i < w
  · rw [rowD_get hi]
    by_cases e : x = i
    · subst e
      rw [List.getElem?_set_self (by rw [rowD_len]; exact hi)]
      simp [updG]
    · rw [List.getElem?_set_ne e, rowD_get hi]
      have : ¬ (i = x ∧ y = y) := fun z => e z.1.symm
      simp [updG, Ne.symm e]
  · rw [List.getElem?_eq_none (by rw [List.length_set, rowD_len]; omega), List.getElem?_eq_none (by rw [rowD_len]; omega)]
theorem rowD_other {w x y b : Nat} {L : Gr} {v : Rat} (h : b ≠ y) : rowD w (updG L x y v) b = rowD w L b := by
  unfold rowD
  refine List.map_congr_left fun a _ => ?_
  simp [updG, h]
theorem grid_set {st : Sto} {l : List O} {w h x y : Nat} {L : Gr} {v : Rat} (hy : y < h) : (st ++ (gridO w h L ++ l)).set (st.length + y) (.lst ((rowD w L y).set x (enc v))) = st ++ (gridO w h (updG L x y v) ++ l) := by
  rw [setPk, List.set_append_left _ _ (by rw [gridO_len]; exact hy), rowD_upd]
  congr 2
  apply List.ext_getElem?
  intro i
  by_cases hi : i < h
  · rw [gridO_get hi]
    by_cases e : y = i
    · subst e
      rw [List.getElem?_set_self (by rw [gridO_len]; exact hi)]
    · rw [List.getElem?_set_ne e, gridO_get hi, rowD_other (Ne.symm e)]
  · rw [List.getElem?_eq_none (by rw [List.length_set, gridO_len]; omega), List.getElem?_eq_none (by rw [gridO_len]; omega)]
theorem grid_lim {w h n : Nat} {L : Gr} : ((gridO w h L).all fun o => o.lim n) = true := by
  rw [List.all_eq_true]
  intro o ho
  unfold gridO at ho
  obtain ⟨y, _, e⟩ := List.mem_map.mp ho
  rw [← e, olim_lst]
  exact lims_map _ _ _ fun x _ => by simp
theorem half_num : (1 / 2 : Rat).num = 1 ∧ (1 / 2 : Rat).den = 2 := by decide +kernel
theorem isR_half : IsR (.kt [.int 1, .int 2]) (1 / 2) := .inr (by rw [half_num.1, half_num.2]; rfl)
theorem one_num : (1 : Rat).num = 1 ∧ (1 : Rat).den = 1 := by decide +kernel
theorem isR_one : IsR (.kt [.int 1, .int 1]) 1 := .inr (by rw [one_num.1, one_num.2]; rfl)
theorem isR_oneT : IsR (.tup [.int 1, .int 1]) 1 := .inl (by rw [one_num.1, one_num.2]; rfl)
theorem zero_num : (0 : Rat).num = 0 ∧ (0 : Rat).den = 1 := by decide +kernel
theorem isR_zero : IsR (.kt [.int 0, .int 1]) 0 := .inr (by rw [zero_num.1, zero_num.2]; rfl)
theorem isR_zeroT : IsR (.tup [.int 0, .int 1]) 0 := .inl (by rw [zero_num.1, zero_num.2]; rfl)
theorem isR_int (i : Int) : IsR (.tup [.int i, .int 1]) (i : Rat) := .inl (by rw [Rat.num_intCast, Rat.den_intCast]; rfl)
theorem share_num {n : Int} (h : n ∈ [7, 3, 5, 1]) : (Rat.divInt n 16).num = n ∧ (Rat.divInt n 16).den = 16 := by
  simp at h
  rcases h with h | h | h | h <;> subst h <;> decide +kernel
theorem isR_share {n : Int} (h : n ∈ [7, 3, 5, 1]) : IsR (.kt [.int n, .int 16]) (Rat.divInt n 16) := .inr (by rw [(share_num h).1, (share_num h).2]; rfl)
theorem isR_shareT {n : Int} (h : n ∈ [7, 3, 5, 1]) : IsR (.tup [.int n, .int 16]) (Rat.divInt n 16) := .inl (by rw [(share_num h).1, (share_num h).2]; rfl)
theorem mem_shares {p : Int × Int × Int} (h : p ∈ shares) : p.2.2 ∈ ([7, 3, 5, 1] : List Int) ∧ 0 ≤ p.2.1 ∧ -1 ≤ p.1 := by
  have : ∀ p ∈ shares, p.2.2 ∈ ([7, 3, 5, 1] : List Int) ∧ 0 ≤ p.2.1 ∧ -1 ≤ p.1 := by decide
  exact this p h
theorem dotS_eq (q : Rat) : (if (!decide (q < 1 / 2)) = true then (1 : Int) else 0) = dotS q := by
  unfold dotS
  by_cases h : q < 1 / 2 <;> simp [h]
theorem sz_half : Sz 500 (1 / 2 : Rat) := ⟨by rw [half_num.1]; decide, by rw [half_num.2]; decide⟩
theorem sz_one : Sz 500 (1 : Rat) := ⟨by rw [one_num.1]; decide, by rw [one_num.2]; decide⟩
theorem sz_dot (q : Rat) : Sz 500 (dotS q : Rat) := by
  unfold dotS
  split <;> exact ⟨by rw [Rat.num_intCast]; decide, by rw [Rat.den_intCast]; decide⟩
theorem sz_share {n : Int} (h : n ∈ [7, 3, 5, 1]) : Sz 500 (Rat.divInt n 16) := by
  refine ⟨?_, ?_⟩
  · rw [(share_num h).1]
    simp at h
    rcases h with h | h | h | h <;> subst h <;> decide
  · rw [(share_num h).2]; decide
theorem ixN_in {n : Nat} {i : Int} (h0 : 0 ≤ i) (h1 : i < n) : ixN n i = some i.toNat := by
  unfold ixN
  rw [if_pos h0, if_pos h1]
def base (rows : List (List Rat)) : Gr := fun x y => 1 - ((rows[y]?.getD [])[x]?.getD 0)
theorem base_get {rows : List (List Rat)} {r : List Rat} {x y : Nat} {q : Rat} (h1 : rows[y]? = some r) (h2 : r[x]? = some q) : base rows x y = 1 - q := by simp [base, h1, h2]
/-- the grid that one begins with -/
theorem grid_start {rows : List (List Rat)} {w h : Nat} (hh : rows.length = h) (hw : ∀ r ∈ rows, r.length = w) : (rows.map fun row => row.map fun q => (enc (1 - q) : D)).map O.lst = gridO w h (base rows) := by
  apply List.ext_getElem?
  intro y
  by_cases hy : y < h
  · have hy' : y < rows.length := by omega
    rw [gridO_get hy, List.getElem?_map, List.getElem?_map, List.getElem?_eq_getElem hy']
    simp only [Option.map_some]
    congr 2
    have hl := hw _ (List.getElem_mem hy')
    apply List.ext_getElem?
    intro x
    by_cases hx : x < w
    · have hx' : x < rows[y].length := by omega
      rw [rowD_get hx, List.getElem?_map, List.getElem?_eq_getElem hx', base_get (List.getElem?_eq_getElem hy') (List.getElem?_eq_getElem hx')]
      rfl
    · rw [List.getElem?_eq_none (by simp; omega), List.getElem?_eq_none (by simp; omega)]
  · rw [List.getElem?_eq_none (by simp; omega), List.getElem?_eq_none (by simp; omega)]
end Law
namespace Law
open PySem PySem.Spec PyProof.Rows L2 MM
open Enc (enc)
def shareD (p : Int × Int × Int) : D := .kt [.int p.1, .int p.2.1, .kt [.int p.2.2, .int 16]]
/-- bounds in the middle of a step -/
def Mid (w h : Nat) (s : Sp) : Prop := (∀ x y, x < w → y < h → Sz 500 (s.L x y)) ∧ Sz 500 s.lost
theorem mid_of {w h k : Nat} {s : Sp} (hk : k ≤ 40) (hs : BndK w h k s) : Mid w h s := ⟨fun x y hx hy => szK hk (c := 30) (by decide) (hs.1 x y hx hy), szK hk (c := 30) (by decide) hs.2⟩
theorem mid_parts {w h k x y : Nat} {s : Sp} (hk : k < 40) (hs : BndK w h k s) (hx : x < w) (hy : y < h) (l : List (Int × Int × Int)) (hl : l.length ≤ 4) (hm : ∀ p ∈ l, p ∈ shares) : Mid w h (parts w h x y (restS s x y) s l) := by
  have h1 := parts_bnd (x := x) (y := y) (pos16 k) (rest_rn (pos16 k) hs hx hy) (l := l) (fun p hp => small_shares p (hm p hp)) (hs.lift (pos16 k))
  have h2 : Bnd w h (30 * 16 ^ (k + 1)) (30 * 100 ^ (k + 1)) (parts w h x y (restS s x y) s l) := by
    rw [Nat.pow_succ, Nat.pow_succ, ← Nat.mul_assoc, ← Nat.mul_assoc]
    have := le100 k
    have h3 : l.length * ((30 * 100 ^ k + 30 * 16 ^ k) * 7) ≤ 4 * ((30 * 100 ^ k + 30 * 16 ^ k) * 7) := Nat.mul_le_mul_right _ hl
    exact h1.mono (by omega)
  exact mid_of (k := k + 1) (by omega) h2
theorem sz_rest {w h k x y : Nat} {s : Sp} (hk : k ≤ 40) (hs : BndK w h k s) (hx : x < w) (hy : y < h) : Sz 500 (restS s x y) := by
  have h1 := rest_rn (pos16 k) hs hx hy
  have := le100 k
  exact szK hk (c := 60) (by decide) (h1.mono (by omega))
theorem sz_part {w h k x y : Nat} {s : Sp} {n : Int} (hk : k < 40) (hn : n.natAbs ≤ 7) (hs : BndK w h k s) (hx : x < w) (hy : y < h) : Sz 500 (restS s x y * Rat.divInt n 16) := by
  have h1 := (rest_rn (pos16 k) hs hx hy).mul (share_rn hn)
  have := le100 k
  have e : 30 * 16 ^ k * 16 = 30 * 16 ^ (k + 1) := by rw [Nat.pow_succ, Nat.mul_assoc]
  rw [e] at h1
  refine szK (k := k + 1) (by omega) (c := 420) (by decide) (h1.mono ?_)
  rw [Nat.pow_succ]
  omega
theorem parts_snoc {w h x y : Nat} {r : Rat} {s : Sp} {l : List (Int × Int × Int)} {p : Int × Int × Int} : parts w h x y r s (l ++ [p]) = putS w h (parts w h x y r s l) (x + p.1) (y + p.2.1) (r * Rat.divInt p.2.2 16) := by
  unfold parts
  rw [List.foldl_append]
  rfl
def Gray (g : Rat) : Prop := ∃ m : Nat, m ≤ 30 ∧ g = Rat.divInt m 30
theorem gray_rn {g : Rat} (h : Gray g) : Rn 30 30 g := by
  obtain ⟨m, hm, e⟩ := h
  exact ⟨m, e, by omega⟩
theorem one_div30 : (1 : Rat) = Rat.divInt 30 30 := by decide +kernel
theorem gray_sub {g : Rat} (h : Gray g) : Rn 30 30 (1 - g) := by
  obtain ⟨m, hm, e⟩ := h
  refine ⟨30 - m, ?_, by omega⟩
  rw [e, one_div30, Rat.sub_eq_add_neg, Rat.neg_divInt, Rat.divInt_add_divInt _ _ (by decide) (by decide), Rat.divInt_eq_divInt_iff (by decide) (by decide)]
  omega
theorem base_rn {rows : List (List Rat)} {w h : Nat} (hh : rows.length = h) (hw : ∀ r ∈ rows, r.length = w) (hg : ∀ r ∈ rows, ∀ g ∈ r, Gray g) : BndK w h 0 ⟨base rows, 0⟩ := by
  refine ⟨fun x y hx hy => ?_, ⟨0, by simp, by simp⟩⟩
  have hy' : y < rows.length := by omega
  have hl := hw _ (List.getElem_mem hy')
  have hx' : x < rows[y].length := by omega
  show Rn 30 30 (base rows x y)
  rw [base_get (List.getElem?_eq_getElem hy') (List.getElem?_eq_getElem hx')]
  exact gray_sub (hg _ (List.getElem_mem hy') _ (List.getElem_mem hx'))
theorem sz_gray {g : Rat} (h : Gray g) : Sz 500 g := szK (k := 0) (by decide) (c := 30) (by decide) (by simpa using gray_rn h)
/-- the dots of a row, of the rows -/
def lineD (w h : Nat) (s : Sp) (y n : Nat) : List D := (List.range n).map fun x => .int (dotAt w h s x y)
def dotsD (w h : Nat) (s : Sp) (n : Nat) : List D := (List.range n).map fun y => .tup (lineD w h s y w)
@[simp] theorem lineD_len (w h : Nat) (s : Sp) (y n : Nat) : (lineD w h s y n).length = n := by simp [lineD]
@[simp] theorem dotsD_len (w h : Nat) (s : Sp) (n : Nat) : (dotsD w h s n).length = n := by simp [dotsD]
@[simp] theorem lineD_lim (w h : Nat) (s : Sp) (y n m : Nat) : D.lims (lineD w h s y n) m = true := lims_map _ _ _ fun _ _ => by simp
@[simp] theorem dotsD_lim (w h : Nat) (s : Sp) (n m : Nat) : D.lims (dotsD w h s n) m = true := lims_map _ _ _ fun _ _ => by simp
theorem lineD_succ (w h : Nat) (s : Sp) (y n : Nat) : lineD w h s y (n + 1) = lineD w h s y n ++ [.int (dotAt w h s n y)] := by simp [lineD, List.range_succ]
theorem dotsD_succ (w h : Nat) (s : Sp) (n : Nat) : dotsD w h s (n + 1) = dotsD w h s n ++ [.tup (lineD w h s n w)] := by simp [dotsD, List.range_succ]
theorem grid_at {w h y : Nat} {L : Gr} {l : List O} (hy : y < h) : (gridO w h L ++ l)[y]? = some (.lst (rowD w L y)) := by
  rw [List.getElem?_append_left (by rw [gridO_len]; exact hy), gridO_get hy]
theorem grid_setD {w h x y : Nat} {L : Gr} {v : Rat} {l : List O} (hy : y < h) : (gridO w h L ++ l).set y (.lst ((rowD w L y).set x (.tup [.int v.num, .int v.den]))) = gridO w h (updG L x y v) ++ l := by
  have h1 := grid_set (st := []) (l := l) (w := w) (h := h) (x := x) (y := y) (L := L) (v := v) hy
  simpa using h1
theorem spread_ok (st : Sto) (rows : List (List Rat)) (w h : Nat) (hh : rows.length = h) (hw : ∀ r ∈ rows, r.length = w) (h5 : h ≤ 5) (w1 : 1 ≤ w) (w6 : w ≤ 6) (hg : ∀ r ∈ rows, ∀ g ∈ r, Gray g) :
    ∃ dl, IsR dl (runS w h h ⟨base rows, 0⟩).lost ∧ F_spread [.tup (rows.map enc)] st = .ok (.val (.tup [.tup (dotsD w h ⟨base rows, 0⟩ h), dl])) st := by
  obtain ⟨s0, hs0⟩ : ∃ s0 : Sp, s0 = ⟨base rows, 0⟩ := ⟨_, rfl⟩
  have hb0 : BndK w h 0 s0 := by rw [hs0]; exact base_rn hh hw hg
  rw [← hs0]
  obtain ⟨W, hW, hWe⟩ : ∃ W : Nat, (0 < h → W = w) ∧ ∀ ρ : En, ρ[0]? = some (some (.tup (rows.map enc))) → dIf (tTru (dV 0)) (dCB gLen (aCons (dBin gIx (dV 0) (dC (.int 0))) (aNil))) (dC (.int 0)) ρ st = .ok (.val (.int (W : Nat))) st := by
    cases rows with
    | nil => exact ⟨0, fun h0 => by simp at hh; omega, fun ρ e => by simp [e]⟩
    | cons r rows => exact ⟨w, fun _ => rfl, fun ρ e => by simp [e, hw r List.mem_cons_self]⟩
  refine dFn_post (fun o => ∃ dl, IsR dl (runS w h h s0).lost ∧ o = .ok (.val (.tup [.tup (dotsD w h s0 h), dl])) st) ?_
  rw [ev_seq, ev_set, hWe _ rfl, SO.of_ok, ev_then_nx]
  simp
  have hgr : ∀ r ∈ rows, ∀ g ∈ r, Sz 500 g := fun r hr g hgg => sz_gray (hg r hr g hgg)
  rw [lc_new enc (fun row : List Rat => row.map fun q => (enc (1 - q) : D)) rows (by simp) (by omega) ?left]
  case left =>
    intro row hrow
    refine ⟨_, rfl, fun l => ?_⟩
    rw [lc_at (chk := fun _ => True) enc (fun q : Rat => (enc (1 - q) : D)) row (by simp [wipeE]) trivial (by rw [hw row hrow]; omega) fun q hq => ⟨_, rfl, ?_⟩]
    have e := minus_rat (st ++ l) isR_one (IsR.tup q) sz_one (hgr row hrow q hq) (by decide)
    simp at e
    simp [wipeE, e]
  rw [grid_start hh hw, hh]
  simp
  have hz0 : IsR (.kt [.int 0, .int 1]) (runS w h 0 s0).lost := by rw [hs0]; exact isR_zero
  rw [show base rows = (runS w h 0 s0).L by rw [hs0]; rfl]
  have hget : ∀ (L : Gr) (l : List O) (j : Nat), (gridO w h L ++ l)[h + j]? = l[j]? := fun L l j => by
    rw [List.getElem?_append_right (by rw [gridO_len]; omega), gridO_len, Nat.add_sub_cancel_left]
  have hset : ∀ (L : Gr) (l : List O) (j : Nat) (o : O), (gridO w h L ++ l).set (h + j) o = gridO w h L ++ l.set j o := fun L l j o => by
    rw [List.set_append_right _ _ (by rw [gridO_len]; omega), gridO_len, Nat.add_sub_cancel_left]
  have hleft : ∀ (L : Gr) (l : List O) (i : Int), 0 ≤ i → i < h → gIx (.val (.loc (st.length + h))) (.val (.int i)) (st ++ (gridO w h L ++ (.lst (MM.locs st.length h) :: l))) = .ok (.val (.loc (st.length + i.toNat))) (st ++ (gridO w h L ++ (.lst (MM.locs st.length h) :: l))) := fun L l i h0 h1 =>
    gIx_loc (by rw [getPk]; exact hget L _ 0) h0 (locs_get (by omega))
  have hrow : ∀ (L : Gr) (l : List O) (i : Int) (Y : Nat), 0 ≤ i → i < w → Y < h → gIx (.val (.loc (st.length + Y))) (.val (.int i)) (st ++ (gridO w h L ++ l)) = .ok (.val (enc (L i.toNat Y))) (st ++ (gridO w h L ++ l)) := fun L l i Y h0 h1 h2 =>
    gIx_loc (grid_row h2) h0 (rowD_get (by omega))
  refine for_range_Gs (Post st (fun o => ∃ dl, IsR dl (runS w h h s0).lost ∧ o = .ok (.val (.tup [.tup (dotsD w h s0 h), dl])) st)) (n := h) (fun y ρ st2 => ∃ dl, IsR dl (runS w h y s0).lost ∧ st2 = st ++ (gridO w h (runS w h y s0).L ++ [.lst (MM.locs st.length h), .lst (dotsD w h s0 y)]) ∧ ∃ c7 c8 c9 c10 c11 c12 c13 c14 c15 c16,
      ρ = [some (.tup (rows.map enc)), some (.int W), some (.loc (st.length + h)), none, none, some (.loc (st.length + (h + 1))), some dl, c7, c8, c9, c10, c11, c12, c13, c14, c15, c16]) (by simp [hh]) (by omega) ⟨_, hz0, rfl, _, _, _, _, _, _, _, _, _, _, rfl⟩ ?_ ?_
  · rintro y hy ρ st2 ⟨dl, hdl, rfl, c7, c8, c9, c10, c11, c12, c13, c14, c15, c16, rfl⟩
    refine ⟨_, rfl, fun N hN => ?_⟩
    have hWw : W = w := hW (by omega)
    have hbr := runK hb0 y (by omega)
    simp
    refine for_range_turns (n := w) (fun x ρ st2 => ∃ dl, IsR dl (rowS w h y x (runS w h y s0)).lost ∧ st2 = st ++ (gridO w h (rowS w h y x (runS w h y s0)).L ++ [.lst (MM.locs st.length h), .lst (dotsD w h s0 y), .lst (lineD w h s0 y x)]) ∧ ∃ c9 c10 c11 c12 c13 c14 c15 c16,
      ρ = [some (.tup (rows.map enc)), some (.int W), some (.loc (st.length + h)), none, none, some (.loc (st.length + (h + 1))), some dl, some (.int y), some (.loc (st.length + (h + 2))), c9, c10, c11, c12, c13, c14, c15, c16]) (by simp [hWw]) (by omega) ⟨_, hdl, rfl, _, _, _, _, _, _, _, _, rfl⟩ ?_ ?_
    · rintro x hx ρ st2 ⟨dl2, hdl2, rfl, c9, c10, c11, c12, c13, c14, c15, c16, rfl⟩
      refine ⟨_, rfl, fun N2 hN2 => ?_⟩
      have hbs := rowK (x := x) hbr hy (by omega)
      have hdot : dotAt w h s0 x y = dotS ((rowS w h y x (runS w h y s0)).L x y) := rfl
      have hnext : rowS w h y (x + 1) (runS w h y s0) = stepS w h (rowS w h y x (runS w h y s0)) x y := rfl
      generalize rowS w h y x (runS w h y s0) = s at *
      have hk40 : y * w + x < 40 := by
        have h1 : y * w ≤ 4 * 6 := Nat.mul_le_mul (by omega) w6
        omega
      have hmid := mid_of (by omega) hbs
      have e1 := hrow s.L [.lst (MM.locs st.length h), .lst (dotsD w h s0 y), .lst (lineD w h s0 y x)] x y (by omega) (by omega) hy
      have e2 := hleft s.L [.lst (dotsD w h s0 y), .lst (lineD w h s0 y x)] y (by omega) (by omega)
      have e3 := fun S => is_less_rat S (IsR.tup (s.L x y)) isR_half (hmid.1 x y hx hy) sz_half (by decide)
      simp at e1 e2 e3
      have hxl : x < 1000000 := by omega
      simp [e1, e2, e3, hget, hset, hxl]
      have hd : (if s.L x y < 1 / 2 then (0 : Int) else 1) = dotS (s.L x y) := rfl
      simp only [hd]
      have e4 := fun S => minus_rat S (IsR.tup (s.L x y)) (isR_int (dotS (s.L x y))) (hmid.1 x y hx hy) (sz_dot (s.L x y)) (by decide)
      rw [show s.L x y - (dotS (s.L x y) : Rat) = restS s x y from rfl] at e4
      have hsr := sz_rest (by omega) hbs hx hy
      have hline : lineD w h s0 y x ++ [D.int (dotS (s.L x y))] = lineD w h s0 y (x + 1) := by rw [lineD_succ, hdot]
      simp only [hline]
      simp at e4
      simp [e4]
      refine for_lst_turns0 (chk := fun _ => True) shareD shares (fun pre ρ st2 => ∃ dl, IsR dl (parts w h x y (restS s x y) s pre).lost ∧ st2 = st ++ (gridO w h (parts w h x y (restS s x y) s pre).L ++ [.lst (MM.locs st.length h), .lst (dotsD w h s0 y), .lst (lineD w h s0 y (x + 1))]) ∧ ∃ c13 c14 c15 c16,
        ρ = [some (.tup (rows.map enc)), some (.int W), some (.loc (st.length + h)), none, none, some (.loc (st.length + (h + 1))), some dl, some (.int y), some (.loc (st.length + (h + 2))), some (.int x), some (.tup [.int (s.L x y).num, .int (s.L x y).den]), some (.int (dotS (s.L x y))), some (.tup [.int (restS s x y).num, .int (restS s x y).den]), c13, c14, c15, c16])
        (by simp [shares, shareD]) ⟨_, hdl2, rfl, _, _, _, _, rfl⟩ ?_ (fun _ _ _ => trivial) ?_
      · rintro pre ⟨a, b, n⟩ ⟨post, hsp⟩ ρ st2 ⟨dl3, hdl3, rfl, c13, c14, c15, c16, rfl⟩
        refine ⟨trivial, _, rfl, fun N3 hN3 => ?_⟩
        obtain ⟨hlen, hmem⟩ := split_mem hsp
        obtain ⟨m1, m2, m3⟩ := mem_shares hmem
        have hpre : ∀ p ∈ pre, p ∈ shares := fun p hp => by rw [hsp]; exact List.mem_append_left _ hp
        have hmidp := mid_parts hk40 hbs hx hy pre (by have : shares.length = 4 := rfl; omega) hpre
        have hsp2 := sz_part hk40 (small_shares _ hmem) hbs hx hy
        have hsnoc := parts_snoc (w := w) (h := h) (x := x) (y := y) (r := restS s x y) (s := s) (l := pre) (p := (a, b, n))
        generalize parts w h x y (restS s x y) s pre = s3 at *
        simp only at m1 m2 m3 hsp2 hsnoc
        have e5 := fun S => times_rat S (IsR.tup (restS s x y)) (isR_share m1) hsr (sz_share m1) (by decide)
        simp at e5
        simp [e5]
        have e8 := fun S (X Y : Nat) (hX : X < w) (hY : Y < h) => plus_rat S (IsR.tup (s3.L X Y)) (IsR.tup (restS s x y * Rat.divInt n 16)) (hmidp.1 X Y hX hY) hsp2 (by decide)
        have e8' := fun S => plus_rat S hdl3 (IsR.tup (restS s x y * Rat.divInt n 16)) hmidp.2 hsp2 (by decide)
        simp at e8'
        by_cases c : 0 ≤ (x : Int) + a ∧ (x : Int) + a < w ∧ (y : Int) + b < h
        · obtain ⟨c1, c2, c3⟩ := c
          have hput : parts w h x y (restS s x y) s (pre ++ [(a, b, n)]) = ⟨updG s3.L ((x : Int) + a).toNat ((y : Int) + b).toNat (s3.L ((x : Int) + a).toNat ((y : Int) + b).toNat + restS s x y * Rat.divInt n 16), s3.lost⟩ := by
            rw [hsnoc]; unfold putS; rw [if_pos ⟨c1, c2, c3⟩]
          have c4 : (y : Int) + b < rows.length := by omega
          have e6 := hleft s3.L [.lst (dotsD w h s0 y), .lst (lineD w h s0 y (x + 1))] ((y : Int) + b) (by omega) c3
          obtain ⟨Y, hY⟩ : ∃ Y, Y = ((y : Int) + b).toNat := ⟨_, rfl⟩
          obtain ⟨X', hX⟩ : ∃ X', X' = ((x : Int) + a).toNat := ⟨_, rfl⟩
          have e7 := hrow s3.L [.lst (MM.locs st.length h), .lst (dotsD w h s0 y), .lst (lineD w h s0 y (x + 1))] ((x : Int) + a) Y c1 c2 (by omega)
          rw [← hY] at e6
          rw [← hX] at e7
          have e9 := e8 (st ++ (gridO w h s3.L ++ [.lst (MM.locs st.length h), .lst (dotsD w h s0 y), .lst (lineD w h s0 y (x + 1))])) X' Y (by omega) (by omega)
          have e10 := grid_at (w := w) (h := h) (y := Y) (L := s3.L) (l := [.lst (MM.locs st.length h), .lst (dotsD w h s0 y), .lst (lineD w h s0 y (x + 1))]) (by omega)
          have e11 := ixN_in c1 c2
          have e12 := fun v => grid_setD (w := w) (h := h) (x := X') (y := Y) (L := s3.L) (v := v) (l := [.lst (MM.locs st.length h), .lst (dotsD w h s0 y), .lst (lineD w h s0 y (x + 1))]) (by omega)
          rw [← hX] at e11
          simp at e6 e7 e9 e10
          simp [c1, c2, c4, hWw, e6, e7, e9, e10, e11, e12]
          refine turn_of (hN3 _ _ ?_)
          rw [tidy_app (by simp)]
          rw [hput, ← hX, ← hY]
          exact ⟨dl3, hdl3, rfl, none, none, none, none, by simp [wipeE, hWw]⟩
        · have hput : parts w h x y (restS s x y) s (pre ++ [(a, b, n)]) = ⟨s3.L, s3.lost + restS s x y * Rat.divInt n 16⟩ := by
            rw [hsnoc]; unfold putS; rw [if_neg c]
          have hfin : MM.Turn N3 (.nx [some (.tup (rows.map enc)), some (.int W), some (.loc (st.length + h)), none, none, some (.loc (st.length + (h + 1))), some (.tup [.int (s3.lost + restS s x y * Rat.divInt n 16).num, .int (s3.lost + restS s x y * Rat.divInt n 16).den]), some (.int y), some (.loc (st.length + (h + 2))), some (.int x), some (.tup [.int (s.L x y).num, .int (s.L x y).den]), some (.int (dotS (s.L x y))), some (.tup [.int (restS s x y).num, .int (restS s x y).den]), some (.int a), some (.int b), some (.kt [.int n, .int 16]), some (.tup [.int (restS s x y * Rat.divInt n 16).num, .int (restS s x y * Rat.divInt n 16).den])] (st ++ (gridO w h s3.L ++ [.lst (MM.locs st.length h), .lst (dotsD w h s0 y), .lst (lineD w h s0 y (x + 1))]))) := by
            refine turn_of (hN3 _ _ ?_)
            rw [tidy_app (by simp), hput]
            exact ⟨_, IsR.tup _, rfl, none, none, none, none, rfl⟩
          by_cases c1 : 0 ≤ (x : Int) + a
          · by_cases c2 : (x : Int) + a < w
            · have c3 : ¬ (y : Int) + b < rows.length := fun z => c ⟨c1, c2, by omega⟩
              simp [c1, c2, c3, hWw, e8'] at hfin ⊢
              exact hfin
            · simp [c1, c2, hWw, e8'] at hfin ⊢
              exact hfin
          · simp [c1, hWw, e8'] at hfin ⊢
            exact hfin
      · rintro ρ st2 ⟨dl3, hdl3, rfl, c13, c14, c15, c16, rfl⟩
        refine hN2 _ _ ?_
        rw [tidy_app (by simp), hnext]
        exact ⟨dl3, hdl3, rfl, none, none, none, none, none, none, none, none, rfl⟩
    · rintro ρ st2 ⟨dl2, hdl2, rfl, c9, c10, c11, c12, c13, c14, c15, c16, rfl⟩
      have hnx : rowS w h y w (runS w h y s0) = runS w h (y + 1) s0 := rfl
      rw [hnx] at hdl2 ⊢
      have hyl : y < 1000000 := by omega
      simp [hget, hset, hyl]
      refine turn_of (hN _ _ ?_)
      have hdots : dotsD w h s0 y ++ [D.tup (lineD w h s0 y w)] = dotsD w h s0 (y + 1) := (dotsD_succ ..).symm
      rw [hdots]
      have htk : (gridO w h (runS w h (y + 1) s0).L ++ [O.lst (MM.locs st.length h), O.lst (dotsD w h s0 (y + 1)), O.lst (lineD w h s0 y w)]).take (gridO w h (runS w h y s0).L ++ [O.lst (MM.locs st.length h), O.lst (dotsD w h s0 y)]).length = gridO w h (runS w h (y + 1) s0).L ++ [O.lst (MM.locs st.length h), O.lst (dotsD w h s0 (y + 1))] := by
        simp [List.take_append]
        exact List.take_of_length_le (by simp)
      have hdlim : ∀ n, dl2.lim n = true := fun n => by rcases hdl2 with e | e <;> subst e <;> simp
      rw [tidy_y (by simp) (by rw [htk]; simp [List.all_append, grid_lim, locs_lim]) (by simp [wipeE, hdlim]), htk]
      exact ⟨dl2, hdl2, rfl, none, none, none, none, none, none, none, none, none, none, rfl⟩
  · rintro ρ st2 ⟨dl, hdl, rfl, c7, c8, c9, c10, c11, c12, c13, c14, c15, c16, rfl⟩
    simp [hget]
    refine Post.rt ⟨dl, hdl, leave_tup ?_⟩
    rcases hdl with e | e <;> subst e <;> simp
end Law
namespace Law
open PySem PySem.Spec PyProof.Rows L2 MM
open Enc (enc)
/-! ### what is wanted in all -/
def wantS (w : Nat) (rows : List (List Rat)) (y x : Nat) : Rat := sumR y (fun b => sumR w fun a => base rows a b) + sumR x fun a => base rows a y
theorem sumR_rn {N M : Nat} (hN : 0 < N) : ∀ {k : Nat} {f : Nat → Rat}, (∀ x, x < k → Rn N M (f x)) → Rn N (k * M) (sumR k f)
  | 0, f, _ => ⟨0, by simp [sumR], by simp⟩
  | k + 1, f, h => by
    rw [sumR_succ, Nat.succ_mul]
    exact (sumR_rn hN fun x hx => h x (by omega)).add hN (h k (by omega))
theorem base_in {rows : List (List Rat)} {w h : Nat} (hh : rows.length = h) (hw : ∀ r ∈ rows, r.length = w) (hg : ∀ r ∈ rows, ∀ g ∈ r, Gray g) {x y : Nat} (hx : x < w) (hy : y < h) : Rn 30 30 (base rows x y) := by
  have := (base_rn hh hw hg).1 x y hx hy
  simpa using this
theorem want_sz {rows : List (List Rat)} {w h : Nat} (hh : rows.length = h) (hw : ∀ r ∈ rows, r.length = w) (hg : ∀ r ∈ rows, ∀ g ∈ r, Gray g) (h5 : h ≤ 5) (w6 : w ≤ 6) {x y : Nat} (hx : x ≤ w) (hy : y < h ∨ (y ≤ h ∧ x = 0)) : Sz 500 (wantS w rows y x) := by
  have h1 : Rn 30 (y * (w * 30)) (sumR y fun b => sumR w fun a => base rows a b) := sumR_rn (by decide) fun b hb => sumR_rn (by decide) fun a ha => base_in hh hw hg ha (by omega)
  have h2 : Rn 30 (x * 30) (sumR x fun a => base rows a y) := sumR_rn (by decide) fun a ha => base_in hh hw hg (by omega) (by omega)
  have h3 := h1.add (by decide) h2
  have h4 : y * (w * 30) ≤ 5 * (6 * 30) := Nat.mul_le_mul (by omega) (Nat.mul_le_mul w6 (Nat.le_refl _))
  refine szK (k := 0) (by decide) (c := 1200) (by decide) ?_
  exact h3.mono (by omega)
theorem want_step {rows : List (List Rat)} {w y x : Nat} : wantS w rows y (x + 1) = wantS w rows y x + base rows x y := by
  unfold wantS
  rw [sumR_succ]
  grind
theorem want_row {rows : List (List Rat)} {w y : Nat} : wantS w rows (y + 1) 0 = wantS w rows y w := by
  unfold wantS
  rw [sumR_succ, sumR_zero]
  grind
theorem want_zero (rows : List (List Rat)) (w : Nat) : wantS w rows 0 0 = 0 := by
  unfold wantS
  rw [sumR_zero, sumR_zero]
  grind
theorem isR_want (rows : List (List Rat)) (w : Nat) : IsR (.kt [.int 0, .int 1]) (wantS w rows 0 0) := by rw [want_zero]; exact isR_zero
theorem isR_wantT (rows : List (List Rat)) (w : Nat) : IsR (.tup [.int 0, .int 1]) (wantS w rows 0 0) := by rw [want_zero]; exact isR_zeroT
theorem at_split {α : Type} {l pre post : List α} {a : α} (h : l = pre ++ a :: post) : l[pre.length]? = some a := by
  subst h
  simp
theorem inked_ok (st : Sto) (rows : List (List Rat)) (w h : Nat) (hh : rows.length = h) (hw : ∀ r ∈ rows, r.length = w) (h5 : h ≤ 5) (w6 : w ≤ 6) (hg : ∀ r ∈ rows, ∀ g ∈ r, Gray g) :
    ∃ d, IsR d (wantS w rows h 0) ∧ F_inked [.tup (rows.map enc)] st = .ok (.val d) st := by
  refine dFn_post (fun o => ∃ d, IsR d (wantS w rows h 0) ∧ o = .ok (.val d) st) ?_
  simp
  refine for_lst_Gs (Post st (fun o => ∃ d, IsR d (wantS w rows h 0) ∧ o = .ok (.val d) st)) (chk := fun _ => True) enc rows (fun pre ρ st2 => st2 = st ∧ ∃ d c2 c3, IsR d (wantS w rows pre.length 0) ∧ ρ = [some (.tup (rows.map enc)), some d, c2, c3]) (by simp) ⟨rfl, _, _, _, isR_want rows w, rfl⟩ ?_ (fun _ _ _ => trivial) ?_
  · rintro pre row ⟨post, hsp⟩ ρ st2 ⟨rfl, d, c2, c3, hd, rfl⟩
    refine ⟨trivial, _, rfl, fun N hN => ?_⟩
    obtain ⟨hl, hm⟩ := split_mem hsp
    have hat := at_split hsp
    refine for_lst_turns0 (chk := fun _ => True) enc row (fun pre2 ρ st3 => st3 = st2 ∧ ∃ d c3, IsR d (wantS w rows pre.length pre2.length) ∧ ρ = [some (.tup (rows.map enc)), some d, some (.tup (row.map enc)), c3]) (by simp) ⟨rfl, _, _, hd, rfl⟩ ?_ (fun _ _ _ => trivial) ?_
    · rintro pre2 g ⟨post2, hsp2⟩ ρ st3 ⟨rfl, d2, c3, hd2, rfl⟩
      refine ⟨trivial, _, rfl, fun N2 hN2 => ?_⟩
      obtain ⟨hl2, hm2⟩ := split_mem hsp2
      rw [hw row hm] at hl2
      have e1 := minus_rat st3 isR_one (IsR.tup g) sz_one (sz_gray (hg row hm g hm2)) (by decide)
      rw [← base_get hat (at_split hsp2)] at e1
      have hsb : Sz 500 (base rows pre2.length pre.length) := szK (k := 0) (by decide) (c := 30) (by decide) (by simpa using base_in hh hw hg hl2 (by omega))
      have e2 := plus_rat st3 hd2 (IsR.tup (base rows pre2.length pre.length)) (want_sz hh hw hg h5 w6 (by omega) (.inl (by omega))) hsb (by decide)
      rw [← want_step] at e2
      simp at e1 e2
      simp [e1, e2]
      refine turn_of (hN2 _ _ ?_)
      rw [tidy_same]
      refine ⟨rfl, _, none, IsR.tup _, ?_⟩
      simp [wipeE]
    · rintro ρ st3 ⟨rfl, d2, c3, hd2, rfl⟩
      refine hN _ _ ?_
      rw [tidy_same]
      refine ⟨rfl, d2, none, none, ?_, rfl⟩
      rw [List.length_append, List.length_singleton, want_row]
      rw [hw row hm] at hd2
      exact hd2
  · rintro ρ st2 ⟨rfl, d, c2, c3, hd, rfl⟩
    rw [hh] at hd
    simp
    exact Post.rt ⟨d, hd, leave_same ..⟩
end Law
namespace Law
open PySem PySem.Spec PyProof.Rows L2 MM
open Enc (enc)
/-- what is got, as a dict -/
def DR (w h : Nat) (B : Gr) (L : Gr) (kvs : List (List Key × D)) (m : Nat) : Prop := (∀ x y : Nat, x < w → y < h → (getK kvs [.inl (x : Int), .inl (y : Int)]).getD (.tup [.int 0, .int 1]) = enc (L x y - B x y)) ∧ kvs.length ≤ m ∧ ∀ n, (kvs.all fun p => p.2.lim n) = true
theorem DR.put {w h : Nat} {B L : Gr} {kvs : List (List Key × D)} {m X Y : Nat} {p : Rat} (hd : DR w h B L kvs m) : DR w h B (updG L X Y (L X Y + p)) (setK kvs [.inl (X : Int), .inl (Y : Int)] (enc (L X Y - B X Y + p))) (m + 1) := by
  refine ⟨fun x y hx hy => ?_, Nat.le_trans (setK_len ..) (by have := hd.2.1; omega), fun n => setK_lim _ _ _ _ (hd.2.2 n) (lim_enc _ n)⟩
  rw [getK_set]
  by_cases e : x = X ∧ y = Y
  · obtain ⟨e1, e2⟩ := e
    subst e1 e2
    rw [if_pos rfl]
    show enc (L x y - B x y + p) = enc (updG L x y (L x y + p) x y - B x y)
    have : updG L x y (L x y + p) x y - B x y = L x y - B x y + p := by
      simp [updG]
      grind
    rw [this]
  · have e' : ¬ ([Sum.inl (x : Int), Sum.inl (y : Int)] : List Key) = [.inl (X : Int), .inl (Y : Int)] := by
      intro z
      simp at z
      exact e ⟨by omega, by omega⟩
    rw [if_neg e', hd.1 x y hx hy]
    have : updG L X Y (L X Y + p) x y = L x y := by
      unfold updG
      rw [if_neg e]
    rw [this]
theorem law_dot (q : Rat) : (if (q.den : Int) ≤ 2 * q.num then (1 : Int) else 0) = dotS q := by
  unfold dotS
  have h := Rat.lt_iff q (1 / 2)
  rw [half_num.1, half_num.2] at h
  by_cases c : q < 1 / 2
  · rw [if_pos c, if_neg]
    have := h.mp c
    omega
  · rw [if_neg c, if_pos]
    have : ¬ q.num * ((2 : Nat) : Int) < 1 * (q.den : Int) := fun z => c (h.mpr z)
    omega
/-- what was got is of no more bits -/
theorem sz_got {w h k : Nat} {B : Gr} {s : Sp} (hk : k ≤ 40) (hb : ∀ x y, x < w → y < h → Rn 30 30 (B x y)) (hs : BndK w h k s) {x y : Nat} (hx : x < w) (hy : y < h) : Sz 500 (s.L x y - B x y) := by
  have h1 := (hb x y hx hy).lift (16 ^ k) (by decide) (Nat.pow_pos (by decide))
  have h2 := (hs.1 x y hx hy).sub (pos16 k) h1
  have := le100 k
  exact szK hk (c := 60) (by decide) (h2.mono (by omega))
theorem mid_got {w h k x y : Nat} {B : Gr} {s : Sp} (hk : k < 40) (hb : ∀ x y, x < w → y < h → Rn 30 30 (B x y)) (hs : BndK w h k s) (hx : x < w) (hy : y < h) (l : List (Int × Int × Int)) (hl : l.length ≤ 4) (hm : ∀ p ∈ l, p ∈ shares) {a b : Nat} (ha : a < w) (hb' : b < h) : Sz 500 ((parts w h x y (restS s x y) s l).L a b - B a b) := by
  have h1 := parts_bnd (x := x) (y := y) (pos16 k) (rest_rn (pos16 k) hs hx hy) (l := l) (fun p hp => small_shares p (hm p hp)) (hs.lift (pos16 k))
  have h2 : BndK w h (k + 1) (parts w h x y (restS s x y) s l) := by
    unfold BndK
    rw [Nat.pow_succ, Nat.pow_succ, ← Nat.mul_assoc, ← Nat.mul_assoc]
    have := le100 k
    have h3 : l.length * ((30 * 100 ^ k + 30 * 16 ^ k) * 7) ≤ 4 * ((30 * 100 ^ k + 30 * 16 ^ k) * 7) := Nat.mul_le_mul_right _ hl
    exact h1.mono (by omega)
  exact sz_got (by omega) hb h2 ha hb'
theorem sz_negdot (q : Rat) : Sz 500 ((-(dotS q) : Int) : Rat) := by
  unfold dotS
  split <;> exact ⟨by rw [Rat.num_intCast]; decide, by rw [Rat.den_intCast]; decide⟩
def shareT (x y : Nat) (p : Int × Int × Int) : D := .tup [.tup [.int (x + p.1), .int (y + p.2.1)], .int p.2.2]
theorem lspread_ok (st : Sto) (rows : List (List Rat)) (w h : Nat) (hh : rows.length = h) (hw : ∀ r ∈ rows, r.length = w) (h5 : h ≤ 5) (w1 : 1 ≤ w) (w6 : w ≤ 6) (hg : ∀ r ∈ rows, ∀ g ∈ r, Gray g) :
    F__law_spread [.tup (rows.map enc)] st = .ok (.val (.tup [.tup (dotsD w h ⟨base rows, 0⟩ h), enc (runS w h h ⟨base rows, 0⟩).lost])) st := by
  obtain ⟨s0, hs0⟩ : ∃ s0 : Sp, s0 = ⟨base rows, 0⟩ := ⟨_, rfl⟩
  have hb0 : BndK w h 0 s0 := by rw [hs0]; exact base_rn hh hw hg
  have hbase : ∀ x y, x < w → y < h → Rn 30 30 (base rows x y) := fun x y hx hy => base_in hh hw hg hx hy
  rw [← hs0]
  refine dFn_post (fun o => o = .ok (.val (.tup [.tup (dotsD w h s0 h), enc (runS w h h s0).lost])) st) ?_
  simp
  have hz0 : (D.tup [.int 0, .int 1]) = enc (runS w h 0 s0).lost := by
    rw [hs0]
    show _ = enc (0 : Rat)
    rw [enc_rat, zero_num.1, zero_num.2]
    rfl
  have hdr0 : DR w h (base rows) (runS w h 0 s0).L [] (4 * (0 * w)) := by
    refine ⟨fun x y hx hy => ?_, by simp, by simp⟩
    rw [hs0]
    show _ = enc (base rows x y - base rows x y)
    have : base rows x y - base rows x y = 0 := by grind
    rw [this, getK_nil, enc_rat, zero_num.1, zero_num.2]
    rfl
  -- rows, read
  have hrows0 : 0 < h → ∃ r : List Rat, r.length = w ∧ ∀ S, gIx (.val (.tup (rows.map enc))) (.val (.int 0)) S = .ok (.val (.tup (r.map enc))) S := fun h0 => by
    have h0' : 0 < rows.length := by omega
    exact ⟨rows[0], hw _ (List.getElem_mem h0'), fun S => gIx_tup (i := 0) S (by decide) (by rw [List.getElem?_map]; simp [List.getElem?_eq_getElem h0'])⟩
  refine for_range_Gs (Post st (fun o => o = .ok (.val (.tup [.tup (dotsD w h s0 h), enc (runS w h h s0).lost])) st)) (n := h) (fun y ρ st2 => ∃ kvs, DR w h (base rows) (runS w h y s0).L kvs (4 * (y * w)) ∧ st2 = st ++ [.dt kvs, .lst (dotsD w h s0 y)] ∧ ∃ c4 c5 c6 c7 c8 c9 c10 c11 c12,
      ρ = [some (.tup (rows.map enc)), some (.loc st.length), some (enc (runS w h y s0).lost), some (.loc (st.length + 1)), c4, c5, c6, c7, c8, c9, c10, c11, c12]) (by simp [hh]) (by omega) ⟨[], hdr0, rfl, _, _, _, _, _, _, _, _, _, by rw [← hz0]⟩ ?_ ?_
  · rintro y hy ρ st2 ⟨kvs, hdr, rfl, c4, c5, c6, c7, c8, c9, c10, c11, c12, rfl⟩
    refine ⟨_, rfl, fun N hN => ?_⟩
    have hbr := runK hb0 y (by omega)
    obtain ⟨r0, hr0l, hr0⟩ := hrows0 (by omega)
    have hy' : y < rows.length := by omega
    obtain ⟨row, hat⟩ : ∃ row, rows[y]? = some row := ⟨rows[y], List.getElem?_eq_getElem hy'⟩
    have hrm := List.mem_of_getElem? hat
    have hyl := hw row hrm
    have hrowy : ∀ S, gIx (.val (.tup (rows.map enc))) (.val (.int (y : Nat))) S = .ok (.val (enc row)) S := fun S => gIx_enc S hat
    simp at hrowy
    simp
    refine for_range_turns (n := w) (fun x ρ st2 => ∃ kvs, DR w h (base rows) (rowS w h y x (runS w h y s0)).L kvs (4 * (y * w + x)) ∧ st2 = st ++ [.dt kvs, .lst (dotsD w h s0 y), .lst (lineD w h s0 y x)] ∧ ∃ c6 c7 c8 c9 c10 c11 c12,
      ρ = [some (.tup (rows.map enc)), some (.loc st.length), some (enc (rowS w h y x (runS w h y s0)).lost), some (.loc (st.length + 1)), some (.int y), some (.loc (st.length + 2)), c6, c7, c8, c9, c10, c11, c12]) (by simp [hr0, hr0l]) (by omega) ⟨kvs, hdr, rfl, _, _, _, _, _, _, _, rfl⟩ ?_ ?_
    · rintro x hx ρ st2 ⟨kvs2, hdr2, rfl, c6, c7, c8, c9, c10, c11, c12, rfl⟩
      refine ⟨_, rfl, fun N2 hN2 => ?_⟩
      have hbs := rowK (x := x) hbr hy (by omega)
      have hdot : dotAt w h s0 x y = dotS ((rowS w h y x (runS w h y s0)).L x y) := rfl
      have hnext : rowS w h y (x + 1) (runS w h y s0) = stepS w h (rowS w h y x (runS w h y s0)) x y := rfl
      generalize rowS w h y x (runS w h y s0) = s at *
      have hk40 : y * w + x < 40 := by
        have h1 : y * w ≤ 4 * 6 := Nat.mul_le_mul (by omega) w6
        omega
      have hmid := mid_of (by omega) hbs
      have hx' : x < row.length := by omega
      obtain ⟨g, hgx⟩ : ∃ g, row[x]? = some g := ⟨row[x], List.getElem?_eq_getElem hx'⟩
      have hgm := List.mem_of_getElem? hgx
      have hbxy := base_get hat hgx
      have hcell : ∀ S, gIx (.val (.tup (row.map enc))) (.val (.int (x : Nat))) S = .ok (.val (enc g)) S := fun S => gIx_enc S hgx
      have n1 := fun S => lawNeg_rat (a := g) S (IsR.tup g)
      have n2 : Sz 500 (-g) := by
        have := sz_gray (hg row hrm g hgm)
        exact ⟨by rw [Rat.neg_num, Int.natAbs_neg]; exact this.num, by rw [Rat.neg_den]; exact this.den⟩
      have n3 := fun S => lawAdd_rat S isR_oneT (IsR.tup (-g)) sz_one n2 (by decide)
      rw [show (1 : Rat) + -g = base rows x y by rw [hbxy, Rat.sub_eq_add_neg]] at n3
      have n4 : Sz 500 (base rows x y) := szK (k := 0) (by decide) (c := 30) (by decide) (by simpa using hbase x y hx hy)
      have n5 := sz_got (by omega) hbase hbs hx hy
      have n6 := fun S => lawAdd_rat S (IsR.tup (base rows x y)) (IsR.tup (s.L x y - base rows x y)) n4 n5 (by decide)
      rw [show base rows x y + (s.L x y - base rows x y) = s.L x y by grind] at n6
      have g1 := gGet2_dt (n := st.length) (ds := [.int (x : Nat), .int (y : Nat)]) (e := .tup [.int 0, .int 1]) (st := st ++ [.dt kvs2, .lst (dotsD w h s0 y), .lst (lineD w h s0 y x)]) (kvs := kvs2) (by simp) rfl
      rw [hdr2.1 x y hx hy] at g1
      have m1 := fun S => mul_sz S (i := 2) (j := (s.L x y).num) (a := 500) (b := 500) (by decide) (hmid.1 x y hx hy).num (by decide) (by decide)
      have hxl : x < 1000000 := by omega
      simp at hcell n1 n3 n6 g1
      simp [hrowy, hcell, n1, n3, n6, g1, m1, law_dot, hxl]
      have r1 := fun S => lawAdd_rat S (IsR.tup (s.L x y)) (isR_int (-(dotS (s.L x y)))) (hmid.1 x y hx hy) (sz_negdot (s.L x y)) (by decide)
      rw [show s.L x y + ((-(dotS (s.L x y)) : Int) : Rat) = restS s x y by rw [Rat.intCast_neg, ← Rat.sub_eq_add_neg]; rfl] at r1
      have hsr := sz_rest (by omega) hbs hx hy
      have hline : lineD w h s0 y x ++ [D.int (dotS (s.L x y))] = lineD w h s0 y (x + 1) := by rw [lineD_succ, hdot]
      simp only [hline]
      simp at r1
      simp [r1]
      have hsx : ∀ (st2 : Sto) (S : Sto), True := fun _ _ => trivial
      refine for_lst_turns0 (chk := fun _ => True) (shareT x y) shares (fun pre ρ st2 => ∃ kvs, DR w h (base rows) (parts w h x y (restS s x y) s pre).L kvs (4 * (y * w + x) + pre.length) ∧ st2 = st ++ [.dt kvs, .lst (dotsD w h s0 y), .lst (lineD w h s0 y (x + 1))] ∧ ∃ c10 c11 c12,
        ρ = [some (.tup (rows.map enc)), some (.loc st.length), some (enc (parts w h x y (restS s x y) s pre).lost), some (.loc (st.length + 1)), some (.int y), some (.loc (st.length + 2)), some (.int x), some (.tup [.int (s.L x y).num, .int (s.L x y).den]), some (.int (dotS (s.L x y))), some (.tup [.int (restS s x y).num, .int (restS s x y).den]), c10, c11, c12])
        (by simp [shares, shareT, Int.sub_eq_add_neg]) ⟨kvs2, by simpa [parts] using hdr2, rfl, _, _, _, rfl⟩ ?_ (fun _ _ _ => trivial) ?_
      · rintro pre ⟨a, b, n⟩ ⟨post, hsp⟩ ρ st2 ⟨kvs3, hdr3, rfl, c10, c11, c12, rfl⟩
        refine ⟨trivial, _, rfl, fun N3 hN3 => ?_⟩
        obtain ⟨hlen, hmem⟩ := split_mem hsp
        obtain ⟨q1, q2, q3⟩ := mem_shares hmem
        have h4 : shares.length = 4 := rfl
        have hpre : ∀ p ∈ pre, p ∈ shares := fun p hp => by rw [hsp]; exact List.mem_append_left _ hp
        have hmidp := mid_parts hk40 hbs hx hy pre (by omega) hpre
        have hgotp := fun A B hA hB => mid_got (x := x) (y := y) hk40 hbase hbs hx hy pre (by omega) hpre (a := A) (b := B) hA hB
        have hsp2 := sz_part hk40 (small_shares _ hmem) hbs hx hy
        have hsnoc := parts_snoc (w := w) (h := h) (x := x) (y := y) (r := restS s x y) (s := s) (l := pre) (p := (a, b, n))
        generalize parts w h x y (restS s x y) s pre = s3 at *
        simp only at q1 q2 q3 hsp2 hsnoc
        have e5 := fun S => lawMul_rat S (IsR.tup (restS s x y)) (isR_shareT q1) hsr (sz_share q1) (by decide)
        have e8' := fun S => lawAdd_rat S (IsR.tup s3.lost) (IsR.tup (restS s x y * Rat.divInt n 16)) hmidp.2 hsp2 (by decide)
        simp at e5 e8'
        have hlk : kvs3.length < 1000000 := by
          have h6 := hdr3.2.1
          omega
        by_cases c : 0 ≤ (x : Int) + a ∧ (x : Int) + a < w ∧ (y : Int) + b < h
        · obtain ⟨c1, c2, c3⟩ := c
          have hput : parts w h x y (restS s x y) s (pre ++ [(a, b, n)]) = ⟨updG s3.L ((x : Int) + a).toNat ((y : Int) + b).toNat (s3.L ((x : Int) + a).toNat ((y : Int) + b).toNat + restS s x y * Rat.divInt n 16), s3.lost⟩ := by
            rw [hsnoc]; unfold putS; rw [if_pos ⟨c1, c2, c3⟩]
          obtain ⟨X', hX⟩ : ∃ X' : Nat, (x : Int) + a = X' := ⟨((x : Int) + a).toNat, by omega⟩
          obtain ⟨Y, hY⟩ : ∃ Y : Nat, (y : Int) + b = Y := ⟨((y : Int) + b).toNat, by omega⟩
          rw [hX, hY, Int.toNat_natCast, Int.toNat_natCast] at hput
          rw [hX] at c1 c2
          rw [hY] at c3
          have c4 : (Y : Int) < rows.length := by omega
          have g2 := gGet2_dt (n := st.length) (ds := [.int (X' : Nat), .int (Y : Nat)]) (e := .tup [.int 0, .int 1]) (st := st ++ [.dt kvs3, .lst (dotsD w h s0 y), .lst (lineD w h s0 y (x + 1))]) (kvs := kvs3) (by simp) rfl
          rw [hdr3.1 X' Y (by omega) (by omega)] at g2
          have e9 := fun S => lawAdd_rat S (IsR.tup (s3.L X' Y - base rows X' Y)) (IsR.tup (restS s x y * Rat.divInt n 16)) (hgotp X' Y (by omega) (by omega)) hsp2 (by decide)
          have p1 := fun d ρ => putAt_dt (n := st.length) (ds := [.int (X' : Nat), .int (Y : Nat)]) (d := d) (ρ := ρ) (st := st ++ [.dt kvs3, .lst (dotsD w h s0 y), .lst (lineD w h s0 y (x + 1))]) (kvs := kvs3) (by simp) rfl hlk
          have hdr4 := hdr3.put (X := X') (Y := Y) (p := restS s x y * Rat.divInt n 16)
          simp at g2 e9 p1
          simp [hX, hY, e5, hr0, hr0l, c1, c2, c4, g2, e9, p1]
          refine turn_of (hN3 _ _ ?_)
          rw [tidy_app (by simp), hput]
          refine ⟨_, (by rw [List.length_append, List.length_singleton, ← Nat.add_assoc]; exact hdr4), ?_, none, none, none, ?_⟩
          · simp
          · simp [wipeE]
        · have hput : parts w h x y (restS s x y) s (pre ++ [(a, b, n)]) = ⟨s3.L, s3.lost + restS s x y * Rat.divInt n 16⟩ := by
            rw [hsnoc]; unfold putS; rw [if_neg c]
          have hfin : ∀ c10 c11 c12, MM.Turn N3 (.nx [some (.tup (rows.map enc)), some (.loc st.length), some (.tup [.int (s3.lost + restS s x y * Rat.divInt n 16).num, .int (s3.lost + restS s x y * Rat.divInt n 16).den]), some (.loc (st.length + 1)), some (.int y), some (.loc (st.length + 2)), some (.int x), some (.tup [.int (s.L x y).num, .int (s.L x y).den]), some (.int (dotS (s.L x y))), some (.tup [.int (restS s x y).num, .int (restS s x y).den]), c10, c11, c12] (st ++ [.dt kvs3, .lst (dotsD w h s0 y), .lst (lineD w h s0 y (x + 1))])) := by
            intro c10 c11 c12
            refine turn_of (hN3 _ _ ?_)
            rw [tidy_app (by simp), hput]
            refine ⟨kvs3, ⟨hdr3.1, Nat.le_trans hdr3.2.1 (by simp), hdr3.2.2⟩, rfl, none, none, none, ?_⟩
            simp [wipeE]
          by_cases c1 : 0 ≤ (x : Int) + a
          · by_cases c2 : (x : Int) + a < w
            · have c3 : ¬ (y : Int) + b < rows.length := fun z => c ⟨c1, c2, by omega⟩
              simp [e5, hr0, hr0l, c1, c2, c3, e8']
              exact hfin _ _ _
            · simp [e5, hr0, hr0l, c1, c2, e8']
              exact hfin _ _ _
          · simp [e5, hr0, hr0l, c1, e8']
            exact hfin _ _ _
      · rintro ρ st2 ⟨kvs3, hdr3, rfl, c10, c11, c12, rfl⟩
        refine hN2 _ _ ?_
        rw [tidy_app (by simp), hnext]
        refine ⟨kvs3, ?_, rfl, none, none, none, none, none, none, none, ?_⟩
        · have h4 : shares.length = 4 := rfl
          rw [h4] at hdr3
          exact ⟨hdr3.1, by have := hdr3.2.1; omega, hdr3.2.2⟩
        · simp [wipeE]
          exact ⟨rfl, rfl⟩
    · rintro ρ st2 ⟨kvs2, hdr2, rfl, c6, c7, c8, c9, c10, c11, c12, rfl⟩
      have hnx : rowS w h y w (runS w h y s0) = runS w h (y + 1) s0 := rfl
      rw [hnx] at hdr2 ⊢
      have hyl : y < 1000000 := by omega
      simp [hyl]
      refine turn_of (hN _ _ ?_)
      have hdots : dotsD w h s0 y ++ [D.tup (lineD w h s0 y w)] = dotsD w h s0 (y + 1) := (dotsD_succ ..).symm
      rw [hdots]
      have hl2 := hdr2.2.2
      simp only [List.all_eq_true] at hl2
      rw [tidy_y (by simp) (by simp; exact fun a b h => by simpa using hl2 _ (a, b) h) (by simp [wipeE])]
      refine ⟨kvs2, ⟨hdr2.1, Nat.le_trans hdr2.2.1 (by have hsm : (y + 1) * w = y * w + w := Nat.succ_mul y w; omega), hdr2.2.2⟩, by simp, none, none, none, none, none, none, none, none, none, ?_⟩
      simp [wipeE]
  · rintro ρ st2 ⟨kvs, hdr, rfl, c4, c5, c6, c7, c8, c9, c10, c11, c12, rfl⟩
    simp
    exact Post.rt (leave_tup (by simp))
end Law
namespace Law
open PySem PySem.Spec PyProof.Rows L2 MM
open Enc (enc)
def gs : List Rat := [0, 1, Rat.divInt 1 2, Rat.divInt 1 3, Rat.divInt 4 5]
theorem gs_gray : ∀ g ∈ gs, Gray g := by
  intro g h
  simp [gs] at h
  rcases h with h | h | h | h | h <;> subst h
  · exact ⟨0, by decide, by decide +kernel⟩
  · exact ⟨30, by decide, by decide +kernel⟩
  · exact ⟨15, by decide, by decide +kernel⟩
  · exact ⟨10, by decide, by decide +kernel⟩
  · exact ⟨24, by decide, by decide +kernel⟩
theorem gs_enc : [D.tup [.int 0, .int 1], .tup [.int 1, .int 1], .tup [.int 1, .int 2], .tup [.int 1, .int 3], .tup [.int 4, .int 5]] = gs.map enc := by
  have h : gs.map (fun q => (q.num, q.den)) = [(0, 1), (1, 1), (1, 2), (1, 3), (4, 5)] := by decide +kernel
  have e : gs.map enc = (gs.map (fun q => (q.num, q.den))).map fun p : Int × Nat => D.tup [.int p.1, .int p.2] := by rw [List.map_map]; rfl
  rw [e, h]
  rfl
def inkS (w h : Nat) (s : Sp) (y x : Nat) : Rat := sumR y (fun b => sumR w fun a => (dotAt w h s a b : Rat)) + sumR x fun a => (dotAt w h s a y : Rat)
theorem ink_step {w h y x : Nat} {s : Sp} : inkS w h s y (x + 1) = inkS w h s y x + (dotAt w h s x y : Rat) := by
  unfold inkS
  rw [sumR_succ]
  grind
theorem ink_row {w h y : Nat} {s : Sp} : inkS w h s (y + 1) 0 = inkS w h s y w := by
  unfold inkS
  rw [sumR_succ, sumR_zero]
  grind
theorem ink_zero (w h : Nat) (s : Sp) : ((0 : Int) : Rat) = inkS w h s 0 0 := by
  unfold inkS
  rw [sumR_zero, sumR_zero]
  decide +kernel
theorem dot_rn1 (q : Rat) : Rn 1 1 (dotS q : Rat) := dot_rn 1 (by decide) q
theorem ink_sz {w h : Nat} {s : Sp} (h5 : h ≤ 5) (w6 : w ≤ 6) : Sz 500 (inkS w h s h 0) := by
  have h1 : Rn 1 (h * (w * 1)) (sumR h fun b => sumR w fun a => (dotAt w h s a b : Rat)) := sumR_rn (by decide) fun b _ => sumR_rn (by decide) fun a _ => dot_rn1 _
  have h2 : Rn 1 (0 * 1) (sumR 0 fun a => (dotAt w h s a h : Rat)) := sumR_rn (by decide) fun a ha => by omega
  have h3 := h1.add (by decide) h2
  have h4 : h * (w * 1) ≤ 5 * (6 * 1) := Nat.mul_le_mul h5 (by omega)
  refine (h3.mono (M' := 30) (by omega)).sz (by decide) ?_ ?_
  · exact Nat.lt_of_lt_of_le (show 1 < 2 ^ 10 by decide) (Nat.pow_le_pow_right (by decide) (by decide))
  · exact Nat.lt_of_lt_of_le (show 30 < 2 ^ 10 by decide) (Nat.pow_le_pow_right (by decide) (by decide))
theorem all_in (w h : Nat) (rows : List (List Rat)) : wantS w rows h 0 = inkS w h ⟨base rows, 0⟩ h 0 + (runS w h h ⟨base rows, 0⟩).lost := by
  have h1 := spread_all (w := w) (h := h) (L := base rows)
  unfold wantS inkS
  rw [sumR_zero, sumR_zero]
  unfold sumG at h1
  grind
theorem okay_dots (w h : Nat) (s : Sp) (n : Nat) (hw : w ≤ 6) (hh : n ≤ 5) : okay 11 (.tup (dotsD w h s n)) = true := by
  refine okay_tup (by simp; omega) fun d hd => ?_
  obtain ⟨y, _, e⟩ := List.mem_map.mp hd
  subst e
  refine okay_tup (by simp; omega) fun d hd => ?_
  obtain ⟨x, _, e⟩ := List.mem_map.mp hd
  subst e
  rfl
theorem bin_dot {g : Rat} (h : g = 0 ∨ g = 1) : dotS (1 - g) = 1 - g.num ∧ (1 - g = 0 ∨ 1 - g = 1) := by
  rcases h with h | h <;> subst h <;> decide +kernel
/-- grays 0 and 1: what is due -/
theorem bin_all {rows : List (List Rat)} {w h : Nat} (hh : rows.length = h) (hw : ∀ r ∈ rows, r.length = w) (hb : ∀ r ∈ rows, ∀ g ∈ r, g = 0 ∨ g = 1) :
    (runS w h h ⟨base rows, 0⟩).lost = 0 ∧ dotsD w h ⟨base rows, 0⟩ h = rows.map fun row => D.tup (row.map fun g => .int (1 - g.num)) := by
  have hbase : ∀ x y, x < w → y < h → (⟨base rows, 0⟩ : Sp).L x y = 0 ∨ (⟨base rows, 0⟩ : Sp).L x y = 1 := by
    intro x y hx hy
    have hy' : y < rows.length := by omega
    have hl := hw _ (List.getElem_mem hy')
    have hx' : x < rows[y].length := by omega
    show base rows x y = 0 ∨ base rows x y = 1
    rw [base_get (List.getElem?_eq_getElem hy') (List.getElem?_eq_getElem hx')]
    exact (bin_dot (hb _ (List.getElem_mem hy') _ (List.getElem_mem hx'))).2
  refine ⟨by rw [run_bin hbase h (Nat.le_refl _)], ?_⟩
  unfold dotsD
  apply List.ext_getElem?
  intro y
  by_cases hy : y < h
  · have hy' : y < rows.length := by omega
    have hl := hw _ (List.getElem_mem hy')
    rw [List.getElem?_map, List.getElem?_range hy, List.getElem?_map, List.getElem?_eq_getElem hy']
    simp only [Option.map_some]
    congr 2
    unfold lineD
    apply List.ext_getElem?
    intro x
    by_cases hx : x < w
    · have hx' : x < rows[y].length := by omega
      rw [List.getElem?_map, List.getElem?_range hx, List.getElem?_map, List.getElem?_eq_getElem hx']
      simp only [Option.map_some]
      congr 2
      unfold dotAt
      rw [run_bin hbase y (by omega), row_bin (fun a ha => hbase a y ha hy) x (by omega)]
      show dotS (base rows x y) = _
      rw [base_get (List.getElem?_eq_getElem hy') (List.getElem?_eq_getElem hx')]
      exact (bin_dot (hb _ (List.getElem_mem hy') _ (List.getElem_mem hx'))).1
    · rw [List.getElem?_eq_none (by simp; omega), List.getElem?_eq_none (by simp; omega)]
  · rw [List.getElem?_eq_none (by simp; omega), List.getElem?_eq_none (by simp; omega)]
theorem holds (ns : List Int) (hl : ns.length ≤ 63) : ∃ st, F_law [.rol (ns.map D.int)] [] = .ok (.val (.bl true)) st := by
  obtain ⟨s0, g0, hs, hst⟩ := streamS ns hl
  refine dFn_ret ?_
  simp [hs]
  rw [← hst]
  obtain ⟨v, s1, hv, g1, hd⟩ := drawS g0 [] 6 (by decide) (by decide)
  simp only [List.append_nil] at hd
  obtain ⟨w, hw⟩ : ∃ w : Nat, 1 + (v : Int) = (w : Int) := ⟨v + 1, by omega⟩
  have hw1 : 1 ≤ w ∧ w ≤ 6 := by omega
  simp [hd, hw]
  obtain ⟨c, s2, hc, g2, hd2⟩ := drawS g1 [.lst (gs.map enc)] 4 (by decide) (by decide)
  rw [gs_enc]
  simp [hd2]
  refine then_G RetT (fun ρ st => ∃ (l : Sto) (q : Nat) (gl : List Rat), st = stS s2 ++ l ∧ (∀ s : Strm, (stS s ++ l)[q]? = some (.lst (gl.map enc))) ∧ (gl = gs ∨ gl = [0, 1]) ∧ ρ = [some (.rol (ns.map D.int)), some (.loc 1), some (.int w), some (.loc q), none, none, none, none, none, none, none, none, none]) ?_ ?_
  · by_cases c0 : c = 0
    · rw [if_pos c0]
      have e : gSl (.val (.loc (stS s1).length)) none (some 2) (stS s2 ++ [.lst (gs.map enc)]) = .ok (.new (.lst (([0, 1] : List Rat).map enc))) (stS s2 ++ [.lst (gs.map enc)]) := by
        have h1 : (stS s2 ++ [O.lst (gs.map enc)])[(stS s1).length]? = some (.lst (gs.map enc)) := by
          rw [show (stS s1).length = (stS s2).length from rfl]; simp
        simp only [gSl, asLr_loc h1]
        rfl
      rw [e, SO.of_ok]
      refine Nx.nx ⟨[.lst (gs.map enc), .lst (([0, 1] : List Rat).map enc)], (stS s2 ++ [O.lst (gs.map enc)]).length, [0, 1], by simp, fun s => ?_, .inr rfl, rfl⟩
      rw [List.length_append, show (stS s2).length = (stS s).length from rfl]
      simp
    · rw [if_neg c0]
      refine Nx.nx ⟨[.lst (gs.map enc)], _, gs, rfl, fun s => ?_, .inl rfl, rfl⟩
      rw [show (stS s1).length = (stS s).length from rfl]
      simp
  rintro ρ st ⟨l, q, gl, rfl, hq, hgl, rfl⟩
  have hgl0 : gl ≠ [] := by rcases hgl with e | e <;> subst e <;> simp [gs]
  have hgll : gl.length < 1000000 := by rcases hgl with e | e <;> subst e <;> simp [gs]
  have hglg : ∀ g ∈ gl, Gray g := by
    rcases hgl with e | e
    · rw [e]; exact gs_gray
    · intro g hg
      refine gs_gray g ?_
      rw [e] at hg
      simp [gs]
      simp at hg
      rcases hg with z | z
      · exact .inl z
      · exact .inr (.inl z)
  -- the rows
  obtain ⟨n, s3, hn, g3, hd3⟩ := drawS g2 l 6 (by decide) (by decide)
  have hn5 : n ≤ 5 := by omega
  obtain ⟨rows, s4, hrl, g4, hrp, hrows⟩ := lc_draw (fa := aCons (dCall F__law_draw (aCons (dV 1) (aCons (dC (.int 6)) (aNil)))) (aNil)) (tg := .nm 5)
    (el := dCB gTuple (aCons (dLc (iRange1 (aCons (dV 2) (aNil))) (.nm 6) (tYes') (dCall F__law_pick (aCons (dV 1) (aCons (dV 3) (aNil)))) [6]) (aNil))) (ws := [5])
    (ρ := [some (.rol (ns.map D.int)), some (.loc 1), some (.int w), some (.loc q), none, none, none, none, none, none, none, none, none]) (s := s3) (s0 := s3) (n := n) (st0 := stS s2 ++ l)
    (fun row : List Rat => row.length = w ∧ ∀ g ∈ row, g ∈ gl) enc l g3 (by simp [hd3]) (by omega) (fun i hi => ⟨_, rfl, fun s gd => by
      obtain ⟨row, s', hl1, g', hp, hlc⟩ := lc_draw (fa := aCons (dV 2) aNil) (tg := .nm 6) (el := dCall F__law_pick (aCons (dV 1) (aCons (dV 3) (aNil)))) (ws := [6])
        (ρ := [some (.rol (ns.map D.int)), some (.loc 1), some (.int w), some (.loc q), none, some (.int i), none, none, none, none, none, none, none]) (s := s) (s0 := s) (n := w) (st0 := stS s ++ l)
        (fun g : Rat => g ∈ gl) enc l gd (by simp) (by omega) (fun j hj => ⟨_, rfl, fun s5 g5 => by
          obtain ⟨a, s6, g6, ha, hpk⟩ := pickS g5 l q gl enc hq hgl0 hgll
          exact ⟨a, s6, g6, ha, by simp [wipeE, hpk]⟩⟩)
      refine ⟨row, s', g', ⟨hl1, hp⟩, ?_⟩
      simp [wipeE, hlc]⟩)
  simp [hrows]
  have hw' : ∀ r ∈ rows, r.length = w := fun r hr => (hrp r hr).1
  have hg' : ∀ r ∈ rows, ∀ g ∈ r, Gray g := fun r hr g hgg => hglg g ((hrp r hr).2 g hgg)
  obtain ⟨dl, hdl, hsp⟩ := spread_ok (stS s4 ++ l) rows w n hrl hw' hn5 hw1.1 hw1.2 hg'
  have hlsp := lspread_ok (stS s4 ++ l) rows w n hrl hw' hn5 hw1.1 hw1.2 hg'
  have hdlim : dl.lim (stS s4 ++ l).length = true := by rcases hdl with e | e <;> subst e <;> simp
  have hsame1 := same_two 11 (stS s4 ++ l) (same_refl 11 _ (stS s4 ++ l) (okay_dots w n ⟨base rows, 0⟩ n hw1.2 hn5)) (same_fr 9 (stS s4 ++ l) hdl (IsR.enc _))
  simp at hlsp hsame1
  simp [hsp, hlsp, hsame1]
  -- sums
  obtain ⟨sp, hspd⟩ : ∃ sp : Sp, sp = ⟨base rows, 0⟩ := ⟨_, rfl⟩
  rw [← hspd]
  refine for_range_Gs RetT (n := n) (fun y ρ st2 => st2 = stS s4 ++ l ∧ ∃ (d : D) (i : Int) (c5 c6 : Option D), IsR d (wantS w rows y 0) ∧ (i : Rat) = inkS w n sp y 0 ∧
      ρ = [some (.rol (ns.map D.int)), some (.loc 1), some (.int w), some (.loc q), some (.tup (rows.map enc)), c5, c6, some (.tup [.tup (dotsD w n sp n), dl]), some d, some (.int i), none, none, none]) (by simp [hrl]) (by omega) ⟨rfl, _, 0, _, _, isR_wantT rows w, ink_zero w n sp, rfl⟩ ?_ ?_
  · rintro y hy ρ st ⟨rfl, d, i, c5, c6, hd0, hi0, rfl⟩
    refine ⟨_, rfl, fun N hN => ?_⟩
    obtain ⟨row, hat⟩ : ∃ row, rows[y]? = some row := ⟨rows[y]'(by omega), List.getElem?_eq_getElem (by omega)⟩
    have hrm := List.mem_of_getElem? hat
    have hrowy : ∀ S, gIx (.val (.tup (rows.map enc))) (.val (.int (y : Nat))) S = .ok (.val (enc row)) S := fun S => gIx_enc S hat
    have hdoty : ∀ S, gIx (.val (.tup (dotsD w n sp n))) (.val (.int (y : Nat))) S = .ok (.val (.tup (lineD w n sp y w))) S := fun S => gIx_tupN S y _ (by simp [dotsD, hy])
    simp at hrowy
    refine for_range_turns0 (n := w) (fun x ρ st2 => st2 = stS s4 ++ l ∧ ∃ (d : D) (i : Int) (c6 : Option D), IsR d (wantS w rows y x) ∧ (i : Rat) = inkS w n sp y x ∧
      ρ = [some (.rol (ns.map D.int)), some (.loc 1), some (.int w), some (.loc q), some (.tup (rows.map enc)), some (.int y), c6, some (.tup [.tup (dotsD w n sp n), dl]), some d, some (.int i), none, none, none]) (by simp) (by omega) ⟨rfl, _, _, _, hd0, hi0, rfl⟩ ?_ ?_
    · rintro x hx ρ st ⟨rfl, d, i, c6, hd1, hi1, rfl⟩
      refine ⟨_, rfl, fun N2 hN2 => ?_⟩
      obtain ⟨g, hgx⟩ : ∃ g, row[x]? = some g := ⟨row[x]'(by rw [hw' row hrm]; exact hx), List.getElem?_eq_getElem (by rw [hw' row hrm]; exact hx)⟩
      have hgm := List.mem_of_getElem? hgx
      have hcell : ∀ S, gIx (.val (.tup (row.map enc))) (.val (.int (x : Nat))) S = .ok (.val (enc g)) S := fun S => gIx_enc S hgx
      have hdotx : ∀ S, gIx (.val (.tup (lineD w n sp y w))) (.val (.int (x : Nat))) S = .ok (.val (.int (dotAt w n sp x y))) S := fun S => gIx_tupN S x _ (by simp [lineD, hx])
      have n1 := fun S => lawNeg_rat (a := g) S (IsR.tup g)
      have n2 : Sz 500 (-g) := by
        have := sz_gray (hg' row hrm g hgm)
        exact ⟨by rw [Rat.neg_num, Int.natAbs_neg]; exact this.num, by rw [Rat.neg_den]; exact this.den⟩
      have n3 := fun S => lawAdd_rat S isR_oneT (IsR.tup (-g)) sz_one n2 (by decide)
      rw [show (1 : Rat) + -g = base rows x y by rw [base_get hat hgx, Rat.sub_eq_add_neg]] at n3
      have n4 : Sz 500 (base rows x y) := szK (k := 0) (by decide) (c := 30) (by decide) (by simpa using base_in hrl hw' hg' hx hy)
      have n5 := fun S => lawAdd_rat S hd1 (IsR.tup (base rows x y)) (want_sz hrl hw' hg' hn5 hw1.2 (by omega) (.inl hy)) n4 (by decide)
      rw [← want_step] at n5
      simp at hcell n1 n3 n5
      simp [hrowy, hcell, n1, n3, n5, hdoty, hdotx]
      refine turn_of (hN2 _ _ ?_)
      rw [tidy_same]
      refine ⟨rfl, _, i + dotAt w n sp x y, none, IsR.tup _, ?_, ?_⟩
      · rw [Rat.intCast_add, hi1, ink_step]
      · simp [wipeE]
    · rintro ρ st ⟨rfl, d, i, c6, hd1, hi1, rfl⟩
      refine hN _ _ ?_
      rw [tidy_same]
      exact ⟨rfl, d, i, none, none, by rw [want_row]; exact hd1, by rw [ink_row]; exact hi1, rfl⟩
  rintro ρ st ⟨rfl, d, i, c5, c6, hd1, hi1, rfl⟩
  obtain ⟨di, hdi, hink⟩ := inked_ok (stS s4 ++ l) rows w n hrl hw' hn5 hw1.2 hg'
  have hsame2 := same_fr 10 (stS s4 ++ l) hdi hd1
  have hbk : BndK w n (n * w) (runS w n n sp) := runK (by rw [hspd]; exact base_rn hrl hw' hg') n (Nat.le_refl _)
  have hnw : n * w ≤ 5 * 6 := Nat.mul_le_mul hn5 hw1.2
  have hlsz : Sz 500 (runS w n n sp).lost := (mid_of (by omega) hbk).2
  have hdl' : IsR dl (runS w n n sp).lost := by rw [hspd]; exact hdl
  have hadd := lawAdd_rat (stS s4 ++ l) (isR_int i) hdl' (by rw [hi1]; exact ink_sz hn5 hw1.2) hlsz (by decide)
  rw [hi1, show inkS w n sp n 0 + (runS w n n sp).lost = wantS w rows n 0 by rw [hspd]; exact (all_in w n rows).symm] at hadd
  have hsame3 := same_fr 10 (stS s4 ++ l) hd1 (IsR.tup (wantS w rows n 0))
  simp at hadd
  have hq4 := hq s4
  rcases hgl with e | e
  · have hlen : gl.length = 5 := by rw [e]; rfl
    simp [hink, hsame2, hadd, hsame3, hq4, hlen]
    exact RetT.rt _
  · have hlen : gl.length = 2 := by rw [e]; rfl
    have hb : ∀ r ∈ rows, ∀ g ∈ r, g = 0 ∨ g = 1 := fun r hr g hgg => by
      have := (hrp r hr).2 g hgg
      rw [e] at this
      simpa using this
    obtain ⟨hb1, hb2⟩ := bin_all hrl hw' hb
    rw [← hspd] at hb1 hb2
    rw [hb1] at hdl'
    simp [hink, hsame2, hadd, hsame3, hq4, hlen]
    rw [lc_at (chk := fun _ => True) enc (fun row : List Rat => D.tup (row.map fun g => .int (1 - g.num))) rows (by simp) trivial (by omega) fun row hrow => ⟨_, rfl, ?_⟩]
    · rw [← hb2]
      have hsame4 := same_two 11 (stS s4 ++ l) (same_refl 11 _ (stS s4 ++ l) (okay_dots w n sp n hw1.2 hn5)) (same_fr 9 (stS s4 ++ l) hdl' isR_zeroT)
      simp [hsame4]
      exact RetT.rt _
    · simp [wipeE]
      rw [lc_at (chk := fun _ => True) enc (fun g : Rat => D.int (1 - g.num)) row (by simp) trivial (by rw [hw' row hrow]; omega) fun g hgg => ⟨_, rfl, by simp [wipeE]⟩]
      simp
end Law
namespace Law
open PySem PySem.Spec PyProof.Rows L2 MM
def topS (i : Nat) : Stmt := PySem.Challenge.pw_pagehold_k37_whole_spread_errors.main.body.getD i (.Pass ⟨0, 0, 0, 0⟩)
structure Txt (K : PySem.W.Frag) (mg : Str → Option Value) where
  f_common : Addr
  fd_common : FuncData
  F_common : L2.Fun K "common" "common" (topS 4) f_common fd_common
  b_common : Binds K fd_common ["a", "b"] []
  g_common : mg "common" = some (.ref f_common)
  f_fraction : Addr
  fd_fraction : FuncData
  F_fraction : L2.Fun K "fraction" "fraction" (topS 5) f_fraction fd_fraction
  b_fraction : Binds K fd_fraction ["n", "d"] []
  g_fraction : mg "fraction" = some (.ref f_fraction)
  f_plus : Addr
  fd_plus : FuncData
  F_plus : L2.Fun K "plus" "plus" (topS 6) f_plus fd_plus
  b_plus : Binds K fd_plus ["a", "b"] []
  g_plus : mg "plus" = some (.ref f_plus)
  f_minus : Addr
  fd_minus : FuncData
  F_minus : L2.Fun K "minus" "minus" (topS 7) f_minus fd_minus
  b_minus : Binds K fd_minus ["a", "b"] []
  g_minus : mg "minus" = some (.ref f_minus)
  f_times : Addr
  fd_times : FuncData
  F_times : L2.Fun K "times" "times" (topS 8) f_times fd_times
  b_times : Binds K fd_times ["a", "b"] []
  g_times : mg "times" = some (.ref f_times)
  f_is_less : Addr
  fd_is_less : FuncData
  F_is_less : L2.Fun K "is_less" "is_less" (topS 9) f_is_less fd_is_less
  b_is_less : Binds K fd_is_less ["a", "b"] []
  g_is_less : mg "is_less" = some (.ref f_is_less)
  f_spread : Addr
  fd_spread : FuncData
  F_spread : L2.Fun K "spread" "spread" (topS 12) f_spread fd_spread
  b_spread : Binds K fd_spread ["rows"] []
  g_spread : mg "spread" = some (.ref f_spread)
  f_inked : Addr
  fd_inked : FuncData
  F_inked : L2.Fun K "inked" "inked" (topS 13) f_inked fd_inked
  b_inked : Binds K fd_inked ["rows"] []
  g_inked : mg "inked" = some (.ref f_inked)
  f__law_stream : Addr
  fd__law_stream : FuncData
  F__law_stream : L2.Fun K "_law_stream" "_law_stream" (topS 15) f__law_stream fd__law_stream
  b__law_stream : Binds K fd__law_stream ["script"] []
  g__law_stream : mg "_law_stream" = some (.ref f__law_stream)
  f__law_draw : Addr
  fd__law_draw : FuncData
  F__law_draw : L2.Fun K "_law_draw" "_law_draw" (topS 16) f__law_draw fd__law_draw
  b__law_draw : Binds K fd__law_draw ["stream", "many"] []
  g__law_draw : mg "_law_draw" = some (.ref f__law_draw)
  f__law_divisor : Addr
  fd__law_divisor : FuncData
  F__law_divisor : L2.Fun K "_law_divisor" "_law_divisor" (topS 17) f__law_divisor fd__law_divisor
  b__law_divisor : Binds K fd__law_divisor ["a", "b"] []
  g__law_divisor : mg "_law_divisor" = some (.ref f__law_divisor)
  f__law_f : Addr
  fd__law_f : FuncData
  F__law_f : L2.Fun K "_law_f" "_law_f" (topS 18) f__law_f fd__law_f
  b__law_f : Binds K fd__law_f ["n", "d"] []
  g__law_f : mg "_law_f" = some (.ref f__law_f)
  f__law_add : Addr
  fd__law_add : FuncData
  F__law_add : L2.Fun K "_law_add" "_law_add" (topS 19) f__law_add fd__law_add
  b__law_add : Binds K fd__law_add ["a", "b"] []
  g__law_add : mg "_law_add" = some (.ref f__law_add)
  f__law_mul : Addr
  fd__law_mul : FuncData
  F__law_mul : L2.Fun K "_law_mul" "_law_mul" (topS 20) f__law_mul fd__law_mul
  b__law_mul : Binds K fd__law_mul ["a", "b"] []
  g__law_mul : mg "_law_mul" = some (.ref f__law_mul)
  f__law_neg : Addr
  fd__law_neg : FuncData
  F__law_neg : L2.Fun K "_law_neg" "_law_neg" (topS 21) f__law_neg fd__law_neg
  b__law_neg : Binds K fd__law_neg ["a"] []
  g__law_neg : mg "_law_neg" = some (.ref f__law_neg)
  f__law_pick : Addr
  fd__law_pick : FuncData
  F__law_pick : L2.Fun K "_law_pick" "_law_pick" (topS 23) f__law_pick fd__law_pick
  b__law_pick : Binds K fd__law_pick ["stream", "rows"] []
  g__law_pick : mg "_law_pick" = some (.ref f__law_pick)
  f__law_same : Addr
  fd__law_same : FuncData
  F__law_same : L2.Fun K "_law_same" "_law_same" (topS 24) f__law_same fd__law_same
  b__law_same : Binds K fd__law_same ["one", "two"] []
  g__law_same : mg "_law_same" = some (.ref f__law_same)
  f__law_spread : Addr
  fd__law_spread : FuncData
  F__law_spread : L2.Fun K "_law_spread" "_law_spread" (topS 26) f__law_spread fd__law_spread
  b__law_spread : Binds K fd__law_spread ["rows"] []
  g__law_spread : mg "_law_spread" = some (.ref f__law_spread)
  f_law : Addr
  fd_law : FuncData
  F_law : L2.Fun K "law" "law" (topS 27) f_law fd_law
  b_law : Binds K fd_law ["script"] []
  g_law : mg "law" = some (.ref f_law)
  z_abs : mg "abs" = none
  z_all : mg "all" = none
  z_bool : mg "bool" = none
  z_dict : mg "dict" = none
  z_int : mg "int" = none
  z_isinstance : mg "isinstance" = none
  z_len : mg "len" = none
  z_list : mg "list" = none
  z_range : mg "range" = none
  z_str : mg "str" = none
  z_tuple : mg "tuple" = none
  u_HALF : Value
  v_HALF : V
  g_HALF : mg "HALF" = some u_HALF
  r_HALF : RelV v_HALF u_HALF
  c_HALF : Always K v_HALF (.kt [(.int 1), (.int 2)])
  u_ONE : Value
  v_ONE : V
  g_ONE : mg "ONE" = some u_ONE
  r_ONE : RelV v_ONE u_ONE
  c_ONE : Always K v_ONE (.kt [(.int 1), (.int 1)])
  u_SHARES : Value
  v_SHARES : V
  g_SHARES : mg "SHARES" = some u_SHARES
  r_SHARES : RelV v_SHARES u_SHARES
  c_SHARES : Always K v_SHARES (.kt [(.kt [(.int 1), (.int 0), (.kt [(.int 7), (.int 16)])]), (.kt [(.int (-1)), (.int 1), (.kt [(.int 3), (.int 16)])]), (.kt [(.int 0), (.int 1), (.kt [(.int 5), (.int 16)])]), (.kt [(.int 1), (.int 1), (.kt [(.int 1), (.int 16)])])])
  u_ZERO : Value
  v_ZERO : V
  g_ZERO : mg "ZERO" = some u_ZERO
  r_ZERO : RelV v_ZERO u_ZERO
  c_ZERO : Always K v_ZERO (.kt [(.int 0), (.int 1)])
section
variable {P : Program} {w : World} {K : PySem.W.Frag} {mg : Str → Option Value} {base : Heap}
theorem sc_common : FnScope ["a", "b"] ["a", "b"] (defScope (topS 4)) := ⟨rfl, rfl, rfl, by decide +kernel, rfl, by decide +kernel, by decide +kernel⟩
theorem ok_common (T : Txt K mg) : FnOk P w K mg base CX0 1 T.f_common T.fd_common ["a", "b"] (fun vs H Q E => spF K mg 2 F_common vs H Q E0) :=
    fn_ok (k := 0) T.F_common sc_common fun cdv A outer s H E hr =>
      (xs_cons (xs_while [] PassesOwn.never (xt_tru (xv 1)) (xs_one (xs_par (i := 0) (j := 1) rfl sc_common.nd rfl rfl (by decide) rfl rfl (xa_cons (xv 1) (xa_cons (x_op op_modN mod_ok (xv 0) (xv 1)) xa_nil)) (by rfl))))
      (xs_one (xs_ret (pe_imp (pe_callB call_abs (by rfl) T.z_abs (by decide +kernel) (xa_cons (xv 0) xa_nil)) (tg_cb abs_ok)))))
theorem sc_fraction : FnScope ["n", "d", "shared"] ["n", "d"] (defScope (topS 5)) := ⟨rfl, rfl, rfl, by decide +kernel, rfl, by decide +kernel, by decide +kernel⟩
theorem ok_fraction (T : Txt K mg) : FnOk P w K mg base CX0 2 T.f_fraction T.fd_fraction ["n", "d"] (fun vs H Q E => spF K mg 2 F_fraction vs H Q E0) :=
    fn_ok (k := 1) T.F_fraction sc_fraction fun cdv A outer s H E hr =>
      (xs_cons (xs_set (i := 2) sc_fraction.nd rfl (by first | exact .inl rfl | exact .inr rfl) (pe_imp (pe_call (ok_common T) (hr.mono (by decide)) (by rfl) T.g_common T.F_common.kp T.b_common .nil pass0 (xa_cons (xv 0) (xa_cons (xv 1) xa_nil))) (tg_call (alen_cons (alen_cons alen_nil)))))
      (xs_cons (xs_if (xt_cmp op_ltAll lt_ok (nomark _) (xv 1) x_int) (xs_one (xs_set (i := 2) sc_fraction.nd rfl (by first | exact .inl rfl | exact .inr rfl) (x_neg (xv 2)))) xs_nil)
      (xs_one (xs_ret (x_tup (xa_cons (x_op op_fdivA fdiv_ok (xv 0) (xv 2)) (xa_cons (x_op op_fdivA fdiv_ok (xv 1) (xv 2)) xa_nil)))))))
theorem sc_plus : FnScope ["a", "b"] ["a", "b"] (defScope (topS 6)) := ⟨rfl, rfl, rfl, by decide +kernel, rfl, by decide +kernel, by decide +kernel⟩
theorem ok_plus (T : Txt K mg) : FnOk P w K mg base CX0 3 T.f_plus T.fd_plus ["a", "b"] (fun vs H Q E => spF K mg 2 F_plus vs H Q E0) :=
    fn_ok (k := 2) T.F_plus sc_plus fun cdv A outer s H E hr =>
      (xs_one (xs_ret (pe_imp (pe_call (ok_fraction T) (hr.mono (by decide)) (by rfl) T.g_fraction T.F_fraction.kp T.b_fraction .nil pass0 (xa_cons (x_op op_addAll add_ok (x_op op_mulAll mul_ok (x_ix ix_seq ix_ok (fun _ _ => rfl) (xv 0) x_int) (x_ix ix_seq ix_ok (fun _ _ => rfl) (xv 1) x_int)) (x_op op_mulAll mul_ok (x_ix ix_seq ix_ok (fun _ _ => rfl) (xv 1) x_int) (x_ix ix_seq ix_ok (fun _ _ => rfl) (xv 0) x_int))) (xa_cons (x_op op_mulAll mul_ok (x_ix ix_seq ix_ok (fun _ _ => rfl) (xv 0) x_int) (x_ix ix_seq ix_ok (fun _ _ => rfl) (xv 1) x_int)) xa_nil))) (tg_call (alen_cons (alen_cons alen_nil))))))
theorem sc_minus : FnScope ["a", "b"] ["a", "b"] (defScope (topS 7)) := ⟨rfl, rfl, rfl, by decide +kernel, rfl, by decide +kernel, by decide +kernel⟩
theorem ok_minus (T : Txt K mg) : FnOk P w K mg base CX0 3 T.f_minus T.fd_minus ["a", "b"] (fun vs H Q E => spF K mg 2 F_minus vs H Q E0) :=
    fn_ok (k := 2) T.F_minus sc_minus fun cdv A outer s H E hr =>
      (xs_one (xs_ret (pe_imp (pe_call (ok_fraction T) (hr.mono (by decide)) (by rfl) T.g_fraction T.F_fraction.kp T.b_fraction .nil pass0 (xa_cons (x_op op_sub i_ok (x_op op_mulAll mul_ok (x_ix ix_seq ix_ok (fun _ _ => rfl) (xv 0) x_int) (x_ix ix_seq ix_ok (fun _ _ => rfl) (xv 1) x_int)) (x_op op_mulAll mul_ok (x_ix ix_seq ix_ok (fun _ _ => rfl) (xv 1) x_int) (x_ix ix_seq ix_ok (fun _ _ => rfl) (xv 0) x_int))) (xa_cons (x_op op_mulAll mul_ok (x_ix ix_seq ix_ok (fun _ _ => rfl) (xv 0) x_int) (x_ix ix_seq ix_ok (fun _ _ => rfl) (xv 1) x_int)) xa_nil))) (tg_call (alen_cons (alen_cons alen_nil))))))
theorem sc_times : FnScope ["a", "b"] ["a", "b"] (defScope (topS 8)) := ⟨rfl, rfl, rfl, by decide +kernel, rfl, by decide +kernel, by decide +kernel⟩
theorem ok_times (T : Txt K mg) : FnOk P w K mg base CX0 3 T.f_times T.fd_times ["a", "b"] (fun vs H Q E => spF K mg 2 F_times vs H Q E0) :=
    fn_ok (k := 2) T.F_times sc_times fun cdv A outer s H E hr =>
      (xs_one (xs_ret (pe_imp (pe_call (ok_fraction T) (hr.mono (by decide)) (by rfl) T.g_fraction T.F_fraction.kp T.b_fraction .nil pass0 (xa_cons (x_op op_mulAll mul_ok (x_ix ix_seq ix_ok (fun _ _ => rfl) (xv 0) x_int) (x_ix ix_seq ix_ok (fun _ _ => rfl) (xv 1) x_int)) (xa_cons (x_op op_mulAll mul_ok (x_ix ix_seq ix_ok (fun _ _ => rfl) (xv 0) x_int) (x_ix ix_seq ix_ok (fun _ _ => rfl) (xv 1) x_int)) xa_nil))) (tg_call (alen_cons (alen_cons alen_nil))))))
theorem sc_is_less : FnScope ["a", "b"] ["a", "b"] (defScope (topS 9)) := ⟨rfl, rfl, rfl, by decide +kernel, rfl, by decide +kernel, by decide +kernel⟩
theorem ok_is_less (T : Txt K mg) : FnOk P w K mg base CX0 1 T.f_is_less T.fd_is_less ["a", "b"] (fun vs H Q E => spF K mg 2 F_is_less vs H Q E0) :=
    fn_ok (k := 0) T.F_is_less sc_is_less fun cdv A outer s H E hr =>
      (xs_one (xs_ret (x_cmp op_ltAll lt_ok (nomark _) (x_op op_mulAll mul_ok (x_ix ix_seq ix_ok (fun _ _ => rfl) (xv 0) x_int) (x_ix ix_seq ix_ok (fun _ _ => rfl) (xv 1) x_int)) (x_op op_mulAll mul_ok (x_ix ix_seq ix_ok (fun _ _ => rfl) (xv 1) x_int) (x_ix ix_seq ix_ok (fun _ _ => rfl) (xv 0) x_int)))))
theorem sc_spread : FnScope ["rows", "wide", "left", "row", "gray", "dots", "lost", "y", "line", "x", "want", "dot", "rest", "across", "down", "share", "part"] ["rows"] (defScope (topS 12)) := ⟨rfl, rfl, rfl, by decide +kernel, rfl, by decide +kernel, by decide +kernel⟩
theorem ok_spread (T : Txt K mg) : FnOk P w K mg base CX0 4 T.f_spread T.fd_spread ["rows"] (fun vs H Q E => spF K mg 1 F_spread vs H Q E0) :=
    fn_ok (k := 3) T.F_spread sc_spread fun cdv A outer s H E hr =>
      (xs_cons (xs_set (i := 1) sc_spread.nd rfl (by first | exact .inl rfl | exact .inr rfl) (x_if (xt_tru (xv 0)) (pe_imp (pe_callB call_lenAll (by rfl) T.z_len (by decide +kernel) (xa_cons (x_ix ix_seq ix_ok (fun _ _ => rfl) (xv 0) x_int) xa_nil)) (tg_cb len_ok)) x_int))
      (xs_cons (xs_setLc (i := 2) [("row", 3)] rfl sc_spread.nd rfl rfl (sw_true rfl rfl rfl (by decide +kernel)) (xi_seq (xv 0)) (by first | exact blkOk_by (by decide +kernel) | exact blkOk_by (by rfl) | exact blkOk_by (by kernel_rfl)) (by decide) (fun _ _ _ _ _ => (pg_name (i := 3) sc_spread.nd rfl (by first | exact .inl rfl | exact .inr rfl))) (fun _ _ _ _ _ => xts_nil) (fun _ _ _ _ _ => (x_lc [("gray", 4)] rfl sc_spread.nd (xi_seq (xv 3)) (by first | exact blkOk_by (by decide +kernel) | exact blkOk_by (by rfl) | exact blkOk_by (by kernel_rfl)) (by decide) (fun _ _ _ _ _ => (pg_name (i := 4) sc_spread.nd rfl (by first | exact .inl rfl | exact .inr rfl))) (fun _ _ _ _ _ => xts_nil) (fun _ _ _ _ _ => (pe_imp (pe_call (ok_minus T) (hr.mono (by decide)) (by rfl) T.g_minus T.F_minus.kp T.b_minus .nil pass0 (xa_cons (x_glob (by rfl) T.g_ONE T.r_ONE T.c_ONE) (xa_cons (xv 4) xa_nil))) (tg_call (alen_cons (alen_cons alen_nil))))))))
      (xs_cons (xs_set (i := 5) sc_spread.nd rfl (by first | exact .inl rfl | exact .inr rfl) (x_lst xa_nil))
      (xs_cons (xs_set (i := 6) sc_spread.nd rfl (by first | exact .inl rfl | exact .inr rfl) (x_glob (by rfl) T.g_ZERO T.r_ZERO T.c_ZERO))
      (xs_cons (xs_for [7, 8, 9, 10, 11, 12, 13, 14, 15, 16] PassesOwn.never rfl (xi_range1 (by rfl) T.z_range (xa_cons (pe_imp (pe_callB call_lenAll (by rfl) T.z_len (by decide +kernel) (xa_cons (xv 0) xa_nil)) (tg_cb len_ok)) xa_nil)) (pg_name (i := 7) sc_spread.nd rfl (by first | exact .inl rfl | exact .inr rfl)) (xs_cons (xs_set (i := 8) sc_spread.nd rfl (by first | exact .inl rfl | exact .inr rfl) (x_lst xa_nil))
      (xs_cons (xs_for [9, 10, 11, 12, 13, 14, 15, 16] PassesOwn.never rfl (xi_range1 (by rfl) T.z_range (xa_cons (xv 1) xa_nil)) (pg_name (i := 9) sc_spread.nd rfl (by first | exact .inl rfl | exact .inr rfl)) (xs_cons (xs_set (i := 10) sc_spread.nd rfl (by first | exact .inl rfl | exact .inr rfl) (x_ix ix_seq ix_ok (fun _ _ => rfl) (x_ix ix_seq ix_ok (fun _ _ => rfl) (xv 2) (xv 7)) (xv 9)))
      (xs_cons (xs_set (i := 11) sc_spread.nd rfl (by first | exact .inl rfl | exact .inr rfl) (pe_imp (pe_callTy call_int1 (by rfl) T.z_int (by decide +kernel) (xa_cons (x_notB (pe_imp (pe_call (ok_is_less T) (hr.mono (by decide)) (by rfl) T.g_is_less T.F_is_less.kp T.b_is_less .nil pass0 (xa_cons (xv 10) (xa_cons (x_glob (by rfl) T.g_HALF T.r_HALF T.c_HALF) xa_nil))) (tg_call (alen_cons (alen_cons alen_nil))))) xa_nil)) (tg_cb int_ok)))
      (xs_cons (xs_expr (pe_imp (pe_bm PySem.F.plainAttrs_list PySem.F.slot_list_append PySem.F.type_list_append mt_append (xv 8) (xa_cons (xv 11) xa_nil)) (tg_bm (T := .lst) (.inl rfl) append_ok)))
      (xs_cons (xs_set (i := 12) sc_spread.nd rfl (by first | exact .inl rfl | exact .inr rfl) (pe_imp (pe_call (ok_minus T) (hr.mono (by decide)) (by rfl) T.g_minus T.F_minus.kp T.b_minus .nil pass0 (xa_cons (xv 10) (xa_cons (x_tup (xa_cons (xv 11) (xa_cons x_int xa_nil))) xa_nil))) (tg_call (alen_cons (alen_cons alen_nil)))))
      (xs_one (xs_for [13, 14, 15, 16] PassesOwn.never rfl (xi_seq (x_glob (by rfl) T.g_SHARES T.r_SHARES T.c_SHARES)) (pg_tup rfl (pgs_cons (pg_name (i := 13) sc_spread.nd rfl (by first | exact .inl rfl | exact .inr rfl)) (pgs_cons (pg_name (i := 14) sc_spread.nd rfl (by first | exact .inl rfl | exact .inr rfl)) (pgs_cons (pg_name (i := 15) sc_spread.nd rfl (by first | exact .inl rfl | exact .inr rfl)) pgs_nil)))) (xs_cons (xs_set (i := 16) sc_spread.nd rfl (by first | exact .inl rfl | exact .inr rfl) (pe_imp (pe_call (ok_times T) (hr.mono (by decide)) (by rfl) T.g_times T.F_times.kp T.b_times .nil pass0 (xa_cons (xv 12) (xa_cons (xv 15) xa_nil))) (tg_call (alen_cons (alen_cons alen_nil)))))
      (xs_one (xs_if (xt_w (xw_and (xt_chain op_le keeps_b (gI_two fun i j => decide (i ≤ j)) op_ltAll lt_ok x_int (x_op op_addAll add_ok (xv 9) (xv 13)) (xv 1) (by rfl)) (xw_and1 (xt_cmp op_ltAll lt_ok (nomark _) (x_op op_addAll add_ok (xv 7) (xv 14)) (pe_imp (pe_callB call_lenAll (by rfl) T.z_len (by decide +kernel) (xa_cons (xv 0) xa_nil)) (tg_cb len_ok)))))) (xs_one (xs_ix (pe_imp (pe_call (ok_plus T) (hr.mono (by decide)) (by rfl) T.g_plus T.F_plus.kp T.b_plus .nil pass0 (xa_cons (x_ix ix_seq ix_ok (fun _ _ => rfl) (x_ix ix_seq ix_ok (fun _ _ => rfl) (xv 2) (x_op op_addAll add_ok (xv 7) (xv 14))) (x_op op_addAll add_ok (xv 9) (xv 13))) (xa_cons (xv 16) xa_nil))) (tg_call (alen_cons (alen_cons alen_nil)))) (x_ix ix_seq ix_ok (fun _ _ => rfl) (xv 2) (x_op op_addAll add_ok (xv 7) (xv 14))) (x_op op_addAll add_ok (xv 9) (xv 13)))) (xs_one (xs_set (i := 6) sc_spread.nd rfl (by first | exact .inl rfl | exact .inr rfl) (pe_imp (pe_call (ok_plus T) (hr.mono (by decide)) (by rfl) T.g_plus T.F_plus.kp T.b_plus .nil pass0 (xa_cons (xv 6) (xa_cons (xv 16) xa_nil))) (tg_call (alen_cons (alen_cons alen_nil))))))))))))))))
      (xs_one (xs_expr (pe_imp (pe_bm PySem.F.plainAttrs_list PySem.F.slot_list_append PySem.F.type_list_append mt_append (xv 5) (xa_cons (pe_imp (pe_callTy call_tuple_of (by rfl) T.z_tuple (by decide +kernel) (xa_cons (xv 8) xa_nil)) (tg_cb tuple_ok)) xa_nil)) (tg_bm (T := .lst) (.inl rfl) append_ok)))))))
      (xs_one (xs_ret (x_tup (xa_cons (pe_imp (pe_callTy call_tuple_of (by rfl) T.z_tuple (by decide +kernel) (xa_cons (xv 5) xa_nil)) (tg_cb tuple_ok)) (xa_cons (xv 6) xa_nil))))))))))
theorem sc_inked : FnScope ["rows", "found", "row", "gray"] ["rows"] (defScope (topS 13)) := ⟨rfl, rfl, rfl, by decide +kernel, rfl, by decide +kernel, by decide +kernel⟩
theorem ok_inked (T : Txt K mg) : FnOk P w K mg base CX0 4 T.f_inked T.fd_inked ["rows"] (fun vs H Q E => spF K mg 1 F_inked vs H Q E0) :=
    fn_ok (k := 3) T.F_inked sc_inked fun cdv A outer s H E hr =>
      (xs_cons (xs_set (i := 1) sc_inked.nd rfl (by first | exact .inl rfl | exact .inr rfl) (x_glob (by rfl) T.g_ZERO T.r_ZERO T.c_ZERO))
      (xs_cons (xs_for [2, 3] PassesOwn.never rfl (xi_seq (xv 0)) (pg_name (i := 2) sc_inked.nd rfl (by first | exact .inl rfl | exact .inr rfl)) (xs_one (xs_for [3] PassesOwn.never rfl (xi_seq (xv 2)) (pg_name (i := 3) sc_inked.nd rfl (by first | exact .inl rfl | exact .inr rfl)) (xs_one (xs_set (i := 1) sc_inked.nd rfl (by first | exact .inl rfl | exact .inr rfl) (pe_imp (pe_call (ok_plus T) (hr.mono (by decide)) (by rfl) T.g_plus T.F_plus.kp T.b_plus .nil pass0 (xa_cons (xv 1) (xa_cons (pe_imp (pe_call (ok_minus T) (hr.mono (by decide)) (by rfl) T.g_minus T.F_minus.kp T.b_minus .nil pass0 (xa_cons (x_glob (by rfl) T.g_ONE T.r_ONE T.c_ONE) (xa_cons (xv 3) xa_nil))) (tg_call (alen_cons (alen_cons alen_nil)))) xa_nil))) (tg_call (alen_cons (alen_cons alen_nil)))))))))
      (xs_one (xs_ret (xv 1)))))
theorem sc__law_stream : FnScope ["script", "mixed", "cell"] ["script"] (defScope (topS 15)) := ⟨rfl, rfl, rfl, by decide +kernel, rfl, by decide +kernel, by decide +kernel⟩
theorem ok__law_stream (T : Txt K mg) : FnOk P w K mg base CX0 1 T.f__law_stream T.fd__law_stream ["script"] (fun vs H Q E => spF K mg 1 F__law_stream vs H Q E0) :=
    fn_ok (k := 0) T.F__law_stream sc__law_stream fun cdv A outer s H E hr =>
      (xs_cons (xs_set (i := 1) sc__law_stream.nd rfl (by first | exact .inl rfl | exact .inr rfl) x_int)
      (xs_cons (xs_for [2] PassesOwn.never rfl (xi_seq (xv 0)) (pg_name (i := 2) sc__law_stream.nd rfl (by first | exact .inl rfl | exact .inr rfl)) (xs_one (xs_set (i := 1) sc__law_stream.nd rfl (by first | exact .inl rfl | exact .inr rfl) (x_op op_modN mod_ok (pe_imp (pe_callTy call_int1 (by rfl) T.z_int (by decide +kernel) (xa_cons (x_op op_addAll add_ok (x_op op_addAll add_ok (x_op op_mulAll mul_ok (xv 1) x_int) (x_op op_modN mod_ok (pe_imp (pe_callTy call_int1 (by rfl) T.z_int (by decide +kernel) (xa_cons (xv 2) xa_nil)) (tg_cb int_ok)) x_int)) x_int) xa_nil)) (tg_cb int_ok)) x_int))))
      (xs_one (xs_ret (x_lst (xa_cons (pe_imp (pe_callTy call_list_of (by rfl) T.z_list (by decide +kernel) (xa_cons (xv 0) xa_nil)) (tg_cb list_ok)) (xa_cons x_int (xa_cons x_int (xa_cons (xv 1) xa_nil)))))))))
theorem sc__law_draw : FnScope ["stream", "many", "value"] ["stream", "many"] (defScope (topS 16)) := ⟨rfl, rfl, rfl, by decide +kernel, rfl, by decide +kernel, by decide +kernel⟩
theorem ok__law_draw (T : Txt K mg) : FnOk P w K mg base CX0 1 T.f__law_draw T.fd__law_draw ["stream", "many"] (fun vs H Q E => spF K mg 2 F__law_draw vs H Q E0) :=
    fn_ok (k := 0) T.F__law_draw sc__law_draw fun cdv A outer s H E hr =>
      (xs_cons (xs_if (xt_w (xw_and (xt_cmp (op_eqAll hr.units) eq_ok (nomark _) (x_ix ix_seq ix_ok (fun _ _ => rfl) (xv 0) x_int) x_int) (xw_and1 (xt_cmp op_ltAll lt_ok (nomark _) (x_ix ix_seq ix_ok (fun _ _ => rfl) (xv 0) x_int) (pe_imp (pe_callB call_lenAll (by rfl) T.z_len (by decide +kernel) (xa_cons (x_ix ix_seq ix_ok (fun _ _ => rfl) (xv 0) x_int) xa_nil)) (tg_cb len_ok)))))) (xs_cons (xs_ix (pe_imp (pe_callB call_abs (by rfl) T.z_abs (by decide +kernel) (xa_cons (pe_imp (pe_callTy call_int1 (by rfl) T.z_int (by decide +kernel) (xa_cons (x_ix ix_seq ix_ok (fun _ _ => rfl) (x_ix ix_seq ix_ok (fun _ _ => rfl) (xv 0) x_int) (x_ix ix_seq ix_ok (fun _ _ => rfl) (xv 0) x_int)) xa_nil)) (tg_cb int_ok)) xa_nil)) (tg_cb abs_ok)) (xv 0) x_int)
      (xs_one (xs_ix (x_op op_addAll add_ok (x_ix ix_seq ix_ok (fun _ _ => rfl) (xv 0) x_int) x_int) (xv 0) x_int))) xs_nil)
      (xs_cons (xs_if (xt_cmp (op_eqAll hr.units) eq_ok (nomark _) (x_ix ix_seq ix_ok (fun _ _ => rfl) (xv 0) x_int) x_int) (xs_cons (xs_ix (x_op op_modN mod_ok (pe_imp (pe_callTy call_int1 (by rfl) T.z_int (by decide +kernel) (xa_cons (x_op op_addAll add_ok (x_op op_mulAll mul_ok (x_ix ix_seq ix_ok (fun _ _ => rfl) (xv 0) x_int) x_int) x_int) xa_nil)) (tg_cb int_ok)) x_int) (xv 0) x_int)
      (xs_one (xs_ret (x_op op_modN mod_ok (pe_imp (pe_callTy call_int1 (by rfl) T.z_int (by decide +kernel) (xa_cons (x_op op_fdivA fdiv_ok (x_ix ix_seq ix_ok (fun _ _ => rfl) (xv 0) x_int) x_int) xa_nil)) (tg_cb int_ok)) (xv 1))))) xs_nil)
      (xs_cons (xs_set (i := 2) sc__law_draw.nd rfl (by first | exact .inl rfl | exact .inr rfl) (x_op op_modN mod_ok (pe_imp (pe_callTy call_int1 (by rfl) T.z_int (by decide +kernel) (xa_cons (x_ix ix_seq ix_ok (fun _ _ => rfl) (xv 0) x_int) xa_nil)) (tg_cb int_ok)) (xv 1)))
      (xs_cons (xs_ix (x_op op_fdivA fdiv_ok (x_ix ix_seq ix_ok (fun _ _ => rfl) (xv 0) x_int) (xv 1)) (xv 0) x_int)
      (xs_one (xs_ret (xv 2)))))))
theorem sc__law_divisor : FnScope ["a", "b"] ["a", "b"] (defScope (topS 17)) := ⟨rfl, rfl, rfl, by decide +kernel, rfl, by decide +kernel, by decide +kernel⟩
theorem ok__law_divisor (T : Txt K mg) : FnOk P w K mg base CX0 1 T.f__law_divisor T.fd__law_divisor ["a", "b"] (fun vs H Q E => spF K mg 2 F__law_divisor vs H Q E0) :=
    fn_ok (k := 0) T.F__law_divisor sc__law_divisor fun cdv A outer s H E hr =>
      (xs_cons (xs_while [] PassesOwn.never (xt_cmp (op_neAll hr.units) ne_ok (nomark _) (xv 1) x_int) (xs_one (xs_par (i := 0) (j := 1) rfl sc__law_divisor.nd rfl rfl (by decide) rfl rfl (xa_cons (xv 1) (xa_cons (x_op op_modN mod_ok (pe_imp (pe_callTy call_int1 (by rfl) T.z_int (by decide +kernel) (xa_cons (xv 0) xa_nil)) (tg_cb int_ok)) (xv 1)) xa_nil)) (by rfl))))
      (xs_one (xs_ret (pe_imp (pe_callB call_abs (by rfl) T.z_abs (by decide +kernel) (xa_cons (xv 0) xa_nil)) (tg_cb abs_ok)))))
theorem sc__law_f : FnScope ["n", "d", "g"] ["n", "d"] (defScope (topS 18)) := ⟨rfl, rfl, rfl, by decide +kernel, rfl, by decide +kernel, by decide +kernel⟩
theorem ok__law_f (T : Txt K mg) : FnOk P w K mg base CX0 2 T.f__law_f T.fd__law_f ["n", "d"] (fun vs H Q E => spF K mg 2 F__law_f vs H Q E0) :=
    fn_ok (k := 1) T.F__law_f sc__law_f fun cdv A outer s H E hr =>
      (xs_cons (xs_set (i := 2) sc__law_f.nd rfl (by first | exact .inl rfl | exact .inr rfl) (pe_imp (pe_call (ok__law_divisor T) (hr.mono (by decide)) (by rfl) T.g__law_divisor T.F__law_divisor.kp T.b__law_divisor .nil pass0 (xa_cons (xv 0) (xa_cons (xv 1) xa_nil))) (tg_call (alen_cons (alen_cons alen_nil)))))
      (xs_cons (xs_if (xt_cmp op_ltAll lt_ok (nomark _) (xv 1) x_int) (xs_one (xs_set (i := 2) sc__law_f.nd rfl (by first | exact .inl rfl | exact .inr rfl) (x_neg (xv 2)))) xs_nil)
      (xs_one (xs_ret (x_tup (xa_cons (x_op op_fdivA fdiv_ok (xv 0) (xv 2)) (xa_cons (x_op op_fdivA fdiv_ok (xv 1) (xv 2)) xa_nil)))))))
theorem sc__law_add : FnScope ["a", "b"] ["a", "b"] (defScope (topS 19)) := ⟨rfl, rfl, rfl, by decide +kernel, rfl, by decide +kernel, by decide +kernel⟩
theorem ok__law_add (T : Txt K mg) : FnOk P w K mg base CX0 3 T.f__law_add T.fd__law_add ["a", "b"] (fun vs H Q E => spF K mg 2 F__law_add vs H Q E0) :=
    fn_ok (k := 2) T.F__law_add sc__law_add fun cdv A outer s H E hr =>
      (xs_one (xs_ret (pe_imp (pe_call (ok__law_f T) (hr.mono (by decide)) (by rfl) T.g__law_f T.F__law_f.kp T.b__law_f .nil pass0 (xa_cons (x_op op_addAll add_ok (x_op op_mulAll mul_ok (x_ix ix_seq ix_ok (fun _ _ => rfl) (xv 0) x_int) (x_ix ix_seq ix_ok (fun _ _ => rfl) (xv 1) x_int)) (x_op op_mulAll mul_ok (x_ix ix_seq ix_ok (fun _ _ => rfl) (xv 1) x_int) (x_ix ix_seq ix_ok (fun _ _ => rfl) (xv 0) x_int))) (xa_cons (x_op op_mulAll mul_ok (x_ix ix_seq ix_ok (fun _ _ => rfl) (xv 0) x_int) (x_ix ix_seq ix_ok (fun _ _ => rfl) (xv 1) x_int)) xa_nil))) (tg_call (alen_cons (alen_cons alen_nil))))))
theorem sc__law_mul : FnScope ["a", "b"] ["a", "b"] (defScope (topS 20)) := ⟨rfl, rfl, rfl, by decide +kernel, rfl, by decide +kernel, by decide +kernel⟩
theorem ok__law_mul (T : Txt K mg) : FnOk P w K mg base CX0 3 T.f__law_mul T.fd__law_mul ["a", "b"] (fun vs H Q E => spF K mg 2 F__law_mul vs H Q E0) :=
    fn_ok (k := 2) T.F__law_mul sc__law_mul fun cdv A outer s H E hr =>
      (xs_one (xs_ret (pe_imp (pe_call (ok__law_f T) (hr.mono (by decide)) (by rfl) T.g__law_f T.F__law_f.kp T.b__law_f .nil pass0 (xa_cons (x_op op_mulAll mul_ok (x_ix ix_seq ix_ok (fun _ _ => rfl) (xv 0) x_int) (x_ix ix_seq ix_ok (fun _ _ => rfl) (xv 1) x_int)) (xa_cons (x_op op_mulAll mul_ok (x_ix ix_seq ix_ok (fun _ _ => rfl) (xv 0) x_int) (x_ix ix_seq ix_ok (fun _ _ => rfl) (xv 1) x_int)) xa_nil))) (tg_call (alen_cons (alen_cons alen_nil))))))
theorem sc__law_neg : FnScope ["a"] ["a"] (defScope (topS 21)) := ⟨rfl, rfl, rfl, by decide +kernel, rfl, by decide +kernel, by decide +kernel⟩
theorem ok__law_neg (T : Txt K mg) : FnOk P w K mg base CX0 1 T.f__law_neg T.fd__law_neg ["a"] (fun vs H Q E => spF K mg 1 F__law_neg vs H Q E0) :=
    fn_ok (k := 0) T.F__law_neg sc__law_neg fun cdv A outer s H E hr =>
      (xs_one (xs_ret (x_tup (xa_cons (x_neg (x_ix ix_seq ix_ok (fun _ _ => rfl) (xv 0) x_int)) (xa_cons (x_ix ix_seq ix_ok (fun _ _ => rfl) (xv 0) x_int) xa_nil)))))
theorem sc__law_pick : FnScope ["stream", "rows"] ["stream", "rows"] (defScope (topS 23)) := ⟨rfl, rfl, rfl, by decide +kernel, rfl, by decide +kernel, by decide +kernel⟩
theorem ok__law_pick (T : Txt K mg) : FnOk P w K mg base CX0 2 T.f__law_pick T.fd__law_pick ["stream", "rows"] (fun vs H Q E => spF K mg 2 F__law_pick vs H Q E0) :=
    fn_ok (k := 1) T.F__law_pick sc__law_pick fun cdv A outer s H E hr =>
      (xs_one (xs_ret (x_ix ix_seq ix_ok (fun _ _ => rfl) (xv 1) (pe_imp (pe_call (ok__law_draw T) (hr.mono (by decide)) (by rfl) T.g__law_draw T.F__law_draw.kp T.b__law_draw .nil pass0 (xa_cons (xv 0) (xa_cons (pe_imp (pe_callB call_lenAll (by rfl) T.z_len (by decide +kernel) (xa_cons (xv 1) xa_nil)) (tg_cb len_ok)) xa_nil))) (tg_call (alen_cons (alen_cons alen_nil)))))))
theorem sc__law_same : FnScope ["one", "two", "k", "key"] ["one", "two"] (defScope (topS 24)) := ⟨rfl, rfl, rfl, by decide +kernel, rfl, by decide +kernel, by decide +kernel⟩
theorem ok__law_same (T : Txt K mg) : ∀ n, FnOk P w K mg base CX0 (n + 0) T.f__law_same T.fd__law_same ["one", "two"] (fun vs H Q E => spF K mg 2 (F__law_same n) vs H Q E0)
  | 0 => fn_bad
  | n + 1 => by
    have ih : FnOk P w K mg base CX0 (n + 0) T.f__law_same T.fd__law_same ["one", "two"] (fun vs H Q E => spF K mg 2 (F__law_same n) vs H Q E0) := ok__law_same T n
    rw [show n + 1 + 0 = (n + 0) + 1 by omega]
    exact fn_ok T.F__law_same sc__law_same fun cdv A outer s H E hr =>
      (xs_cons (xs_if (xt_w (xw_or (xt_w (xw_and (xt_tru (pe_imp (pe_callB call_isi (by rfl) T.z_isinstance (by decide +kernel) (xa_cons (xv 0) (xa_cons (x_ty .tup (by rfl) T.z_tuple (by decide +kernel)) xa_nil))) (tg_cb isi_ok))) (xw_and1 (xt_tru (pe_imp (pe_callB call_isi (by rfl) T.z_isinstance (by decide +kernel) (xa_cons (xv 1) (xa_cons (x_ty .tup (by rfl) T.z_tuple (by decide +kernel)) xa_nil))) (tg_cb isi_ok)))))) (xw_or1 (xt_w (xw_and (xt_tru (pe_imp (pe_callB call_isi (by rfl) T.z_isinstance (by decide +kernel) (xa_cons (xv 0) (xa_cons (x_ty .lst (by rfl) T.z_list (by decide +kernel)) xa_nil))) (tg_cb isi_ok))) (xw_and1 (xt_tru (pe_imp (pe_callB call_isi (by rfl) T.z_isinstance (by decide +kernel) (xa_cons (xv 1) (xa_cons (x_ty .lst (by rfl) T.z_list (by decide +kernel)) xa_nil))) (tg_cb isi_ok))))))))) (xs_one (xs_ret (x_and (x_cmp (op_eqAll hr.units) eq_ok (nomark _) (pe_imp (pe_callB call_lenAll (by rfl) T.z_len (by decide +kernel) (xa_cons (xv 0) xa_nil)) (tg_cb len_ok)) (pe_imp (pe_callB call_lenAll (by rfl) T.z_len (by decide +kernel) (xa_cons (xv 1) xa_nil)) (tg_cb len_ok))) (x_one (pe_imp (pe_callB (cr_allK rfl) (by rfl) T.z_all (by decide +kernel) (xa_cons (x_lc [("k", 2)] rfl sc__law_same.nd (xi_range1 (by rfl) T.z_range (xa_cons (pe_imp (pe_callB call_lenAll (by rfl) T.z_len (by decide +kernel) (xa_cons (xv 0) xa_nil)) (tg_cb len_ok)) xa_nil)) (by first | exact blkOk_by (by decide +kernel) | exact blkOk_by (by rfl) | exact blkOk_by (by kernel_rfl)) (by decide) (fun _ _ _ _ _ => (pg_name (i := 2) sc__law_same.nd rfl (by first | exact .inl rfl | exact .inr rfl))) (fun _ _ _ _ _ => xts_nil) (fun _ _ _ _ _ => (pe_imp (pe_call (ih) hr (by rfl) T.g__law_same T.F__law_same.kp T.b__law_same .nil pass0 (xa_cons (x_ix ix_seq ix_ok (fun _ _ => rfl) (xv 0) (xv 2)) (xa_cons (x_ix ix_seq ix_ok (fun _ _ => rfl) (xv 1) (xv 2)) xa_nil))) (tg_call (alen_cons (alen_cons alen_nil)))))) xa_nil)) (tg_cb all_ok)))))) xs_nil)
      (xs_cons (xs_if (xt_w (xw_and (xt_tru (pe_imp (pe_callB call_isi (by rfl) T.z_isinstance (by decide +kernel) (xa_cons (xv 0) (xa_cons (x_ty .dic (by rfl) T.z_dict (by decide +kernel)) xa_nil))) (tg_cb isi_ok))) (xw_and1 (xt_tru (pe_imp (pe_callB call_isi (by rfl) T.z_isinstance (by decide +kernel) (xa_cons (xv 1) (xa_cons (x_ty .dic (by rfl) T.z_dict (by decide +kernel)) xa_nil))) (tg_cb isi_ok)))))) (xs_one xs_bad) xs_nil)
      (xs_cons (xs_if (xt_w (xw_or (xt_w (xw_and (xt_tru (pe_imp (pe_callB call_isi (by rfl) T.z_isinstance (by decide +kernel) (xa_cons (xv 0) (xa_cons (x_ty .str (by rfl) T.z_str (by decide +kernel)) xa_nil))) (tg_cb isi_ok))) (xw_and1 (xt_tru (pe_imp (pe_callB call_isi (by rfl) T.z_isinstance (by decide +kernel) (xa_cons (xv 1) (xa_cons (x_ty .str (by rfl) T.z_str (by decide +kernel)) xa_nil))) (tg_cb isi_ok)))))) (xw_or1 (xt_w (xw_and (xt_cmp op_isAll is_ok (nomark _) (xv 0) x_non) (xw_and1 (xt_cmp op_isAll is_ok (nomark _) (xv 1) x_non))))))) (xs_one (xs_ret (x_cmp (op_eqAll hr.units) eq_ok (nomark _) (xv 0) (xv 1)))) xs_nil)
      (xs_cons (xs_if (xt_w (xw_or (xt_not (xt_tru (pe_imp (pe_callB call_isi (by rfl) T.z_isinstance (by decide +kernel) (xa_cons (xv 0) (xa_cons (x_ty .int (by rfl) T.z_int (by decide +kernel)) xa_nil))) (tg_cb isi_ok)))) (xw_or1 (xt_not (xt_tru (pe_imp (pe_callB call_isi (by rfl) T.z_isinstance (by decide +kernel) (xa_cons (xv 1) (xa_cons (x_ty .int (by rfl) T.z_int (by decide +kernel)) xa_nil))) (tg_cb isi_ok))))))) (xs_one (xs_ret x_bl)) xs_nil)
      (xs_one (xs_ret (x_and (x_cmp (op_eqAll hr.units) eq_ok (nomark _) (xv 0) (xv 1)) (x_one (x_cmp (op_eqAll hr.units) eq_ok (nomark _) (pe_imp (pe_callB call_isi (by rfl) T.z_isinstance (by decide +kernel) (xa_cons (xv 0) (xa_cons (x_ty .bl (by rfl) T.z_bool (by decide +kernel)) xa_nil))) (tg_cb isi_ok)) (pe_imp (pe_callB call_isi (by rfl) T.z_isinstance (by decide +kernel) (xa_cons (xv 1) (xa_cons (x_ty .bl (by rfl) T.z_bool (by decide +kernel)) xa_nil))) (tg_cb isi_ok)))))))))))
theorem sc__law_spread : FnScope ["rows", "got", "lost", "dots", "y", "line", "x", "want", "dot", "rest", "to", "share", "part"] ["rows"] (defScope (topS 26)) := ⟨rfl, rfl, rfl, by decide +kernel, rfl, by decide +kernel, by decide +kernel⟩
theorem ok__law_spread (T : Txt K mg) : FnOk P w K mg base CX0 4 T.f__law_spread T.fd__law_spread ["rows"] (fun vs H Q E => spF K mg 1 F__law_spread vs H Q E0) :=
    fn_ok (k := 3) T.F__law_spread sc__law_spread fun cdv A outer s H E hr =>
      (xs_cons (xs_set (i := 1) sc__law_spread.nd rfl (by first | exact .inl rfl | exact .inr rfl) x_newT)
      (xs_cons (xs_set (i := 2) sc__law_spread.nd rfl (by first | exact .inl rfl | exact .inr rfl) (x_tup (xa_cons x_int (xa_cons x_int xa_nil))))
      (xs_cons (xs_set (i := 3) sc__law_spread.nd rfl (by first | exact .inl rfl | exact .inr rfl) (x_lst xa_nil))
      (xs_cons (xs_for [4, 5, 6, 7, 8, 9, 10, 11, 12] PassesOwn.never rfl (xi_range1 (by rfl) T.z_range (xa_cons (pe_imp (pe_callB call_lenAll (by rfl) T.z_len (by decide +kernel) (xa_cons (xv 0) xa_nil)) (tg_cb len_ok)) xa_nil)) (pg_name (i := 4) sc__law_spread.nd rfl (by first | exact .inl rfl | exact .inr rfl)) (xs_cons (xs_set (i := 5) sc__law_spread.nd rfl (by first | exact .inl rfl | exact .inr rfl) (x_lst xa_nil))
      (xs_cons (xs_for [6, 7, 8, 9, 10, 11, 12] PassesOwn.never rfl (xi_range1 (by rfl) T.z_range (xa_cons (pe_imp (pe_callB call_lenAll (by rfl) T.z_len (by decide +kernel) (xa_cons (x_ix ix_seq ix_ok (fun _ _ => rfl) (xv 0) x_int) xa_nil)) (tg_cb len_ok)) xa_nil)) (pg_name (i := 6) sc__law_spread.nd rfl (by first | exact .inl rfl | exact .inr rfl)) (xs_cons (xs_set (i := 7) sc__law_spread.nd rfl (by first | exact .inl rfl | exact .inr rfl) (pe_imp (pe_call (ok__law_add T) (hr.mono (by decide)) (by rfl) T.g__law_add T.F__law_add.kp T.b__law_add .nil pass0 (xa_cons (pe_imp (pe_call (ok__law_add T) (hr.mono (by decide)) (by rfl) T.g__law_add T.F__law_add.kp T.b__law_add .nil pass0 (xa_cons (x_tup (xa_cons x_int (xa_cons x_int xa_nil))) (xa_cons (pe_imp (pe_call (ok__law_neg T) (hr.mono (by decide)) (by rfl) T.g__law_neg T.F__law_neg.kp T.b__law_neg .nil pass0 (xa_cons (x_ix ix_seq ix_ok (fun _ _ => rfl) (x_ix ix_seq ix_ok (fun _ _ => rfl) (xv 0) (xv 4)) (xv 6)) xa_nil)) (tg_call (alen_cons alen_nil))) xa_nil))) (tg_call (alen_cons (alen_cons alen_nil)))) (xa_cons (pe_imp (pe_bm PySem.F.plainAttrs_dict PySem.F.slot_dict_get PySem.F.type_dict_get (mt_get2 (u1 hr.units)) (xv 1) (xa_cons (x_tup (xa_cons (xv 6) (xa_cons (xv 4) xa_nil))) (xa_cons (x_tup (xa_cons x_int (xa_cons x_int xa_nil))) xa_nil))) (tg_bm (T := .dic) (.inr (.inl rfl)) get2_ok)) xa_nil))) (tg_call (alen_cons (alen_cons alen_nil)))))
      (xs_cons (xs_set (i := 8) sc__law_spread.nd rfl (by first | exact .inl rfl | exact .inr rfl) (pe_imp (pe_callTy call_int1 (by rfl) T.z_int (by decide +kernel) (xa_cons (x_cmp op_ge b_ok (nomark _) (x_op op_mulAll mul_ok x_int (x_ix ix_seq ix_ok (fun _ _ => rfl) (xv 7) x_int)) (x_ix ix_seq ix_ok (fun _ _ => rfl) (xv 7) x_int)) xa_nil)) (tg_cb int_ok)))
      (xs_cons (xs_expr (pe_imp (pe_bm PySem.F.plainAttrs_list PySem.F.slot_list_append PySem.F.type_list_append mt_append (xv 5) (xa_cons (xv 8) xa_nil)) (tg_bm (T := .lst) (.inl rfl) append_ok)))
      (xs_cons (xs_set (i := 9) sc__law_spread.nd rfl (by first | exact .inl rfl | exact .inr rfl) (pe_imp (pe_call (ok__law_add T) (hr.mono (by decide)) (by rfl) T.g__law_add T.F__law_add.kp T.b__law_add .nil pass0 (xa_cons (xv 7) (xa_cons (x_tup (xa_cons (x_neg (xv 8)) (xa_cons x_int xa_nil))) xa_nil))) (tg_call (alen_cons (alen_cons alen_nil)))))
      (xs_one (xs_for [10, 11, 12] PassesOwn.never rfl (xi_seq (x_tup (xa_cons (x_tup (xa_cons (x_tup (xa_cons (x_op op_addAll add_ok (xv 6) x_int) (xa_cons (xv 4) xa_nil))) (xa_cons x_int xa_nil))) (xa_cons (x_tup (xa_cons (x_tup (xa_cons (x_op op_sub i_ok (xv 6) x_int) (xa_cons (x_op op_addAll add_ok (xv 4) x_int) xa_nil))) (xa_cons x_int xa_nil))) (xa_cons (x_tup (xa_cons (x_tup (xa_cons (xv 6) (xa_cons (x_op op_addAll add_ok (xv 4) x_int) xa_nil))) (xa_cons x_int xa_nil))) (xa_cons (x_tup (xa_cons (x_tup (xa_cons (x_op op_addAll add_ok (xv 6) x_int) (xa_cons (x_op op_addAll add_ok (xv 4) x_int) xa_nil))) (xa_cons x_int xa_nil))) xa_nil)))))) (pg_tup rfl (pgs_cons (pg_name (i := 10) sc__law_spread.nd rfl (by first | exact .inl rfl | exact .inr rfl)) (pgs_cons (pg_name (i := 11) sc__law_spread.nd rfl (by first | exact .inl rfl | exact .inr rfl)) pgs_nil))) (xs_cons (xs_set (i := 12) sc__law_spread.nd rfl (by first | exact .inl rfl | exact .inr rfl) (pe_imp (pe_call (ok__law_mul T) (hr.mono (by decide)) (by rfl) T.g__law_mul T.F__law_mul.kp T.b__law_mul .nil pass0 (xa_cons (xv 9) (xa_cons (x_tup (xa_cons (xv 11) (xa_cons x_int xa_nil))) xa_nil))) (tg_call (alen_cons (alen_cons alen_nil)))))
      (xs_one (xs_if (xt_w (xw_and (xt_chain op_le keeps_b (gI_two fun i j => decide (i ≤ j)) op_ltAll lt_ok x_int (x_ix ix_seq ix_ok (fun _ _ => rfl) (xv 10) x_int) (pe_imp (pe_callB call_lenAll (by rfl) T.z_len (by decide +kernel) (xa_cons (x_ix ix_seq ix_ok (fun _ _ => rfl) (xv 0) x_int) xa_nil)) (tg_cb len_ok)) (by rfl)) (xw_and1 (xt_cmp op_ltAll lt_ok (nomark _) (x_ix ix_seq ix_ok (fun _ _ => rfl) (xv 10) x_int) (pe_imp (pe_callB call_lenAll (by rfl) T.z_len (by decide +kernel) (xa_cons (xv 0) xa_nil)) (tg_cb len_ok)))))) (xs_one (xs_put (u1 hr.units) (pe_imp (pe_call (ok__law_add T) (hr.mono (by decide)) (by rfl) T.g__law_add T.F__law_add.kp T.b__law_add .nil pass0 (xa_cons (pe_imp (pe_bm PySem.F.plainAttrs_dict PySem.F.slot_dict_get PySem.F.type_dict_get (mt_get2 (u1 hr.units)) (xv 1) (xa_cons (xv 10) (xa_cons (x_tup (xa_cons x_int (xa_cons x_int xa_nil))) xa_nil))) (tg_bm (T := .dic) (.inr (.inl rfl)) get2_ok)) (xa_cons (xv 12) xa_nil))) (tg_call (alen_cons (alen_cons alen_nil)))) (xv 1) (xv 10))) (xs_one (xs_set (i := 2) sc__law_spread.nd rfl (by first | exact .inl rfl | exact .inr rfl) (pe_imp (pe_call (ok__law_add T) (hr.mono (by decide)) (by rfl) T.g__law_add T.F__law_add.kp T.b__law_add .nil pass0 (xa_cons (xv 2) (xa_cons (xv 12) xa_nil))) (tg_call (alen_cons (alen_cons alen_nil))))))))))))))))
      (xs_one (xs_expr (pe_imp (pe_bm PySem.F.plainAttrs_list PySem.F.slot_list_append PySem.F.type_list_append mt_append (xv 3) (xa_cons (pe_imp (pe_callTy call_tuple_of (by rfl) T.z_tuple (by decide +kernel) (xa_cons (xv 5) xa_nil)) (tg_cb tuple_ok)) xa_nil)) (tg_bm (T := .lst) (.inl rfl) append_ok)))))))
      (xs_one (xs_ret (x_tup (xa_cons (pe_imp (pe_callTy call_tuple_of (by rfl) T.z_tuple (by decide +kernel) (xa_cons (xv 3) xa_nil)) (tg_cb tuple_ok)) (xa_cons (xv 2) xa_nil)))))))))
theorem sc_law : FnScope ["script", "stream", "wide", "grays", "rows", "y", "x", "told", "want", "ink", "due", "row", "gray"] ["script"] (defScope (topS 27)) := ⟨rfl, rfl, rfl, by decide +kernel, rfl, by decide +kernel, by decide +kernel⟩
theorem ok_law (T : Txt K mg) : FnOk P w K mg base CX0 13 T.f_law T.fd_law ["script"] (fun vs H Q E => spF K mg 1 F_law vs H Q E0) :=
    fn_ok (k := 12) T.F_law sc_law fun cdv A outer s H E hr =>
      (xs_cons (xs_set (i := 1) sc_law.nd rfl (by first | exact .inl rfl | exact .inr rfl) (pe_imp (pe_call (ok__law_stream T) (hr.mono (by decide)) (by rfl) T.g__law_stream T.F__law_stream.kp T.b__law_stream .nil pass0 (xa_cons (xv 0) xa_nil)) (tg_call (alen_cons alen_nil))))
      (xs_cons (xs_set (i := 2) sc_law.nd rfl (by first | exact .inl rfl | exact .inr rfl) (x_op op_addAll add_ok x_int (pe_imp (pe_call (ok__law_draw T) (hr.mono (by decide)) (by rfl) T.g__law_draw T.F__law_draw.kp T.b__law_draw .nil pass0 (xa_cons (xv 1) (xa_cons x_int xa_nil))) (tg_call (alen_cons (alen_cons alen_nil))))))
      (xs_cons (xs_set (i := 3) sc_law.nd rfl (by first | exact .inl rfl | exact .inr rfl) (x_lst (xa_cons (x_tup (xa_cons x_int (xa_cons x_int xa_nil))) (xa_cons (x_tup (xa_cons x_int (xa_cons x_int xa_nil))) (xa_cons (x_tup (xa_cons x_int (xa_cons x_int xa_nil))) (xa_cons (x_tup (xa_cons x_int (xa_cons x_int xa_nil))) (xa_cons (x_tup (xa_cons x_int (xa_cons x_int xa_nil))) xa_nil)))))))
      (xs_cons (xs_if (xt_cmp (op_eqAll hr.units) eq_ok (nomark _) (pe_imp (pe_call (ok__law_draw T) (hr.mono (by decide)) (by rfl) T.g__law_draw T.F__law_draw.kp T.b__law_draw .nil pass0 (xa_cons (xv 1) (xa_cons x_int xa_nil))) (tg_call (alen_cons (alen_cons alen_nil)))) x_int) (xs_one (xs_set (i := 3) sc_law.nd rfl (by first | exact .inl rfl | exact .inr rfl) (x_slice (xv 3) xo_none (xo_some x_int)))) xs_nil)
      (xs_cons (xs_set (i := 4) sc_law.nd rfl (by first | exact .inl rfl | exact .inr rfl) (pe_imp (pe_callTy call_tuple_of (by rfl) T.z_tuple (by decide +kernel) (xa_cons (x_lc [("y", 5)] rfl sc_law.nd (xi_range1 (by rfl) T.z_range (xa_cons (pe_imp (pe_call (ok__law_draw T) (hr.mono (by decide)) (by rfl) T.g__law_draw T.F__law_draw.kp T.b__law_draw .nil pass0 (xa_cons (xv 1) (xa_cons x_int xa_nil))) (tg_call (alen_cons (alen_cons alen_nil)))) xa_nil)) (by first | exact blkOk_by (by decide +kernel) | exact blkOk_by (by rfl) | exact blkOk_by (by kernel_rfl)) (by decide) (fun _ _ _ _ _ => (pg_name (i := 5) sc_law.nd rfl (by first | exact .inl rfl | exact .inr rfl))) (fun _ _ _ _ _ => xts_nil) (fun _ _ _ _ _ => (pe_imp (pe_callTy call_tuple_of (by rfl) T.z_tuple (by decide +kernel) (xa_cons (x_lc [("x", 6)] rfl sc_law.nd (xi_range1 (by rfl) T.z_range (xa_cons (xv 2) xa_nil)) (by first | exact blkOk_by (by decide +kernel) | exact blkOk_by (by rfl) | exact blkOk_by (by kernel_rfl)) (by decide) (fun _ _ _ _ _ => (pg_name (i := 6) sc_law.nd rfl (by first | exact .inl rfl | exact .inr rfl))) (fun _ _ _ _ _ => xts_nil) (fun _ _ _ _ _ => (pe_imp (pe_call (ok__law_pick T) (hr.mono (by decide)) (by rfl) T.g__law_pick T.F__law_pick.kp T.b__law_pick .nil pass0 (xa_cons (xv 1) (xa_cons (xv 3) xa_nil))) (tg_call (alen_cons (alen_cons alen_nil)))))) xa_nil)) (tg_cb tuple_ok)))) xa_nil)) (tg_cb tuple_ok)))
      (xs_cons (xs_set (i := 7) sc_law.nd rfl (by first | exact .inl rfl | exact .inr rfl) (pe_imp (pe_call (ok_spread T) (hr.mono (by decide)) (by rfl) T.g_spread T.F_spread.kp T.b_spread .nil pass0 (xa_cons (xv 4) xa_nil)) (tg_call (alen_cons alen_nil))))
      (xs_cons (xs_if (xt_not (xt_tru (pe_imp (pe_call (ok__law_same T 12) (hr.mono (by decide)) (by rfl) T.g__law_same T.F__law_same.kp T.b__law_same .nil pass0 (xa_cons (xv 7) (xa_cons (pe_imp (pe_call (ok__law_spread T) (hr.mono (by decide)) (by rfl) T.g__law_spread T.F__law_spread.kp T.b__law_spread .nil pass0 (xa_cons (xv 4) xa_nil)) (tg_call (alen_cons alen_nil))) xa_nil))) (tg_call (alen_cons (alen_cons alen_nil)))))) (xs_one (xs_ret x_bl)) xs_nil)
      (xs_cons (xs_set (i := 8) sc_law.nd rfl (by first | exact .inl rfl | exact .inr rfl) (x_tup (xa_cons x_int (xa_cons x_int xa_nil))))
      (xs_cons (xs_set (i := 9) sc_law.nd rfl (by first | exact .inl rfl | exact .inr rfl) x_int)
      (xs_cons (xs_for [5, 6] PassesOwn.never rfl (xi_range1 (by rfl) T.z_range (xa_cons (pe_imp (pe_callB call_lenAll (by rfl) T.z_len (by decide +kernel) (xa_cons (xv 4) xa_nil)) (tg_cb len_ok)) xa_nil)) (pg_name (i := 5) sc_law.nd rfl (by first | exact .inl rfl | exact .inr rfl)) (xs_one (xs_for [6] PassesOwn.never rfl (xi_range1 (by rfl) T.z_range (xa_cons (xv 2) xa_nil)) (pg_name (i := 6) sc_law.nd rfl (by first | exact .inl rfl | exact .inr rfl)) (xs_cons (xs_set (i := 8) sc_law.nd rfl (by first | exact .inl rfl | exact .inr rfl) (pe_imp (pe_call (ok__law_add T) (hr.mono (by decide)) (by rfl) T.g__law_add T.F__law_add.kp T.b__law_add .nil pass0 (xa_cons (xv 8) (xa_cons (pe_imp (pe_call (ok__law_add T) (hr.mono (by decide)) (by rfl) T.g__law_add T.F__law_add.kp T.b__law_add .nil pass0 (xa_cons (x_tup (xa_cons x_int (xa_cons x_int xa_nil))) (xa_cons (pe_imp (pe_call (ok__law_neg T) (hr.mono (by decide)) (by rfl) T.g__law_neg T.F__law_neg.kp T.b__law_neg .nil pass0 (xa_cons (x_ix ix_seq ix_ok (fun _ _ => rfl) (x_ix ix_seq ix_ok (fun _ _ => rfl) (xv 4) (xv 5)) (xv 6)) xa_nil)) (tg_call (alen_cons alen_nil))) xa_nil))) (tg_call (alen_cons (alen_cons alen_nil)))) xa_nil))) (tg_call (alen_cons (alen_cons alen_nil)))))
      (xs_one (xs_set (i := 9) sc_law.nd rfl (by first | exact .inl rfl | exact .inr rfl) (x_op op_addAll add_ok (xv 9) (x_ix ix_seq ix_ok (fun _ _ => rfl) (x_ix ix_seq ix_ok (fun _ _ => rfl) (x_ix ix_seq ix_ok (fun _ _ => rfl) (xv 7) x_int) (xv 5)) (xv 6)))))))))
      (xs_cons (xs_if (xt_w (xw_or (xt_not (xt_tru (pe_imp (pe_call (ok__law_same T 12) (hr.mono (by decide)) (by rfl) T.g__law_same T.F__law_same.kp T.b__law_same .nil pass0 (xa_cons (pe_imp (pe_call (ok_inked T) (hr.mono (by decide)) (by rfl) T.g_inked T.F_inked.kp T.b_inked .nil pass0 (xa_cons (xv 4) xa_nil)) (tg_call (alen_cons alen_nil))) (xa_cons (xv 8) xa_nil))) (tg_call (alen_cons (alen_cons alen_nil)))))) (xw_or1 (xt_not (xt_tru (pe_imp (pe_call (ok__law_same T 12) (hr.mono (by decide)) (by rfl) T.g__law_same T.F__law_same.kp T.b__law_same .nil pass0 (xa_cons (xv 8) (xa_cons (pe_imp (pe_call (ok__law_add T) (hr.mono (by decide)) (by rfl) T.g__law_add T.F__law_add.kp T.b__law_add .nil pass0 (xa_cons (x_tup (xa_cons (xv 9) (xa_cons x_int xa_nil))) (xa_cons (x_ix ix_seq ix_ok (fun _ _ => rfl) (xv 7) x_int) xa_nil))) (tg_call (alen_cons (alen_cons alen_nil)))) xa_nil))) (tg_call (alen_cons (alen_cons alen_nil))))))))) (xs_one (xs_ret x_bl)) xs_nil)
      (xs_cons (xs_if (xt_cmp (op_eqAll hr.units) eq_ok (nomark _) (pe_imp (pe_callB call_lenAll (by rfl) T.z_len (by decide +kernel) (xa_cons (xv 3) xa_nil)) (tg_cb len_ok)) x_int) (xs_cons (xs_set (i := 10) sc_law.nd rfl (by first | exact .inl rfl | exact .inr rfl) (pe_imp (pe_callTy call_tuple_of (by rfl) T.z_tuple (by decide +kernel) (xa_cons (x_lc [("row", 11)] rfl sc_law.nd (xi_seq (xv 4)) (by first | exact blkOk_by (by decide +kernel) | exact blkOk_by (by rfl) | exact blkOk_by (by kernel_rfl)) (by decide) (fun _ _ _ _ _ => (pg_name (i := 11) sc_law.nd rfl (by first | exact .inl rfl | exact .inr rfl))) (fun _ _ _ _ _ => xts_nil) (fun _ _ _ _ _ => (pe_imp (pe_callTy call_tuple_of (by rfl) T.z_tuple (by decide +kernel) (xa_cons (x_lc [("gray", 12)] rfl sc_law.nd (xi_seq (xv 11)) (by first | exact blkOk_by (by decide +kernel) | exact blkOk_by (by rfl) | exact blkOk_by (by kernel_rfl)) (by decide) (fun _ _ _ _ _ => (pg_name (i := 12) sc_law.nd rfl (by first | exact .inl rfl | exact .inr rfl))) (fun _ _ _ _ _ => xts_nil) (fun _ _ _ _ _ => (x_op op_sub i_ok x_int (x_ix ix_seq ix_ok (fun _ _ => rfl) (xv 12) x_int)))) xa_nil)) (tg_cb tuple_ok)))) xa_nil)) (tg_cb tuple_ok)))
      (xs_one (xs_ret (pe_imp (pe_call (ok__law_same T 12) (hr.mono (by decide)) (by rfl) T.g__law_same T.F__law_same.kp T.b__law_same .nil pass0 (xa_cons (xv 7) (xa_cons (x_tup (xa_cons (xv 10) (xa_cons (x_tup (xa_cons x_int (xa_cons x_int xa_nil))) xa_nil))) xa_nil))) (tg_call (alen_cons (alen_cons alen_nil))))))) xs_nil)
      (xs_one (xs_ret x_bl))))))))))))))
end
theorem all_mk {l : PySem.W.OpenLaw} {w : World} {K : PySem.W.Frag} {h : Heap} {mg : Str → Option Value} {fa : Addr} (X : K.In h) (G : h.Ns mainGlobals mg) (hfa : mg "law" = some (.ref fa))
    {f_common : Addr} {od_common an_common : Option Addr} {sl_common : Array (Option Value)} {oc_common kV_common dc_common pm_common cd_common ct_common : Value}
    {f_fraction : Addr} {od_fraction an_fraction : Option Addr} {sl_fraction : Array (Option Value)} {oc_fraction kV_fraction dc_fraction pm_fraction cd_fraction ct_fraction : Value}
    {f_plus : Addr} {od_plus an_plus : Option Addr} {sl_plus : Array (Option Value)} {oc_plus kV_plus dc_plus pm_plus cd_plus ct_plus : Value}
    {f_minus : Addr} {od_minus an_minus : Option Addr} {sl_minus : Array (Option Value)} {oc_minus kV_minus dc_minus pm_minus cd_minus ct_minus : Value}
    {f_times : Addr} {od_times an_times : Option Addr} {sl_times : Array (Option Value)} {oc_times kV_times dc_times pm_times cd_times ct_times : Value}
    {f_is_less : Addr} {od_is_less an_is_less : Option Addr} {sl_is_less : Array (Option Value)} {oc_is_less kV_is_less dc_is_less pm_is_less cd_is_less ct_is_less : Value}
    {f_spread : Addr} {od_spread an_spread : Option Addr} {sl_spread : Array (Option Value)} {oc_spread kV_spread dc_spread pm_spread cd_spread ct_spread : Value}
    {f_inked : Addr} {od_inked an_inked : Option Addr} {sl_inked : Array (Option Value)} {oc_inked kV_inked dc_inked pm_inked cd_inked ct_inked : Value}
    {f__law_stream : Addr} {od__law_stream an__law_stream : Option Addr} {sl__law_stream : Array (Option Value)} {oc__law_stream kV__law_stream dc__law_stream pm__law_stream cd__law_stream ct__law_stream : Value}
    {f__law_draw : Addr} {od__law_draw an__law_draw : Option Addr} {sl__law_draw : Array (Option Value)} {oc__law_draw kV__law_draw dc__law_draw pm__law_draw cd__law_draw ct__law_draw : Value}
    {f__law_divisor : Addr} {od__law_divisor an__law_divisor : Option Addr} {sl__law_divisor : Array (Option Value)} {oc__law_divisor kV__law_divisor dc__law_divisor pm__law_divisor cd__law_divisor ct__law_divisor : Value}
    {f__law_f : Addr} {od__law_f an__law_f : Option Addr} {sl__law_f : Array (Option Value)} {oc__law_f kV__law_f dc__law_f pm__law_f cd__law_f ct__law_f : Value}
    {f__law_add : Addr} {od__law_add an__law_add : Option Addr} {sl__law_add : Array (Option Value)} {oc__law_add kV__law_add dc__law_add pm__law_add cd__law_add ct__law_add : Value}
    {f__law_mul : Addr} {od__law_mul an__law_mul : Option Addr} {sl__law_mul : Array (Option Value)} {oc__law_mul kV__law_mul dc__law_mul pm__law_mul cd__law_mul ct__law_mul : Value}
    {f__law_neg : Addr} {od__law_neg an__law_neg : Option Addr} {sl__law_neg : Array (Option Value)} {oc__law_neg kV__law_neg dc__law_neg pm__law_neg cd__law_neg ct__law_neg : Value}
    {f__law_pick : Addr} {od__law_pick an__law_pick : Option Addr} {sl__law_pick : Array (Option Value)} {oc__law_pick kV__law_pick dc__law_pick pm__law_pick cd__law_pick ct__law_pick : Value}
    {f__law_same : Addr} {od__law_same an__law_same : Option Addr} {sl__law_same : Array (Option Value)} {oc__law_same kV__law_same dc__law_same pm__law_same cd__law_same ct__law_same : Value}
    {f__law_spread : Addr} {od__law_spread an__law_spread : Option Addr} {sl__law_spread : Array (Option Value)} {oc__law_spread kV__law_spread dc__law_spread pm__law_spread cd__law_spread ct__law_spread : Value}
    {f_law : Addr} {od_law an_law : Option Addr} {sl_law : Array (Option Value)} {oc_law kV_law dc_law pm_law cd_law ct_law : Value}
    {t1_HALF : Tok}
    {t2_HALF : Tok}
    {p3_HALF : Addr} {odp3_HALF : Option Addr} {np3_HALF : Nat} {slp3_HALF : Array (Option Value)}
    {t1_ONE : Tok}
    {t2_ONE : Tok}
    {p3_ONE : Addr} {odp3_ONE : Option Addr} {np3_ONE : Nat} {slp3_ONE : Array (Option Value)}
    {t1_SHARES : Tok}
    {t2_SHARES : Tok}
    {t3_SHARES : Tok}
    {t4_SHARES : Tok}
    {p5_SHARES : Addr} {odp5_SHARES : Option Addr} {np5_SHARES : Nat} {slp5_SHARES : Array (Option Value)}
    {p6_SHARES : Addr} {odp6_SHARES : Option Addr} {np6_SHARES : Nat} {slp6_SHARES : Array (Option Value)}
    {t7_SHARES : Tok}
    {t8_SHARES : Tok}
    {t9_SHARES : Tok}
    {t10_SHARES : Tok}
    {p11_SHARES : Addr} {odp11_SHARES : Option Addr} {np11_SHARES : Nat} {slp11_SHARES : Array (Option Value)}
    {p12_SHARES : Addr} {odp12_SHARES : Option Addr} {np12_SHARES : Nat} {slp12_SHARES : Array (Option Value)}
    {t13_SHARES : Tok}
    {t14_SHARES : Tok}
    {t15_SHARES : Tok}
    {t16_SHARES : Tok}
    {p17_SHARES : Addr} {odp17_SHARES : Option Addr} {np17_SHARES : Nat} {slp17_SHARES : Array (Option Value)}
    {p18_SHARES : Addr} {odp18_SHARES : Option Addr} {np18_SHARES : Nat} {slp18_SHARES : Array (Option Value)}
    {t19_SHARES : Tok}
    {t20_SHARES : Tok}
    {t21_SHARES : Tok}
    {t22_SHARES : Tok}
    {p23_SHARES : Addr} {odp23_SHARES : Option Addr} {np23_SHARES : Nat} {slp23_SHARES : Array (Option Value)}
    {p24_SHARES : Addr} {odp24_SHARES : Option Addr} {np24_SHARES : Nat} {slp24_SHARES : Array (Option Value)}
    {p25_SHARES : Addr} {odp25_SHARES : Option Addr} {np25_SHARES : Nat} {slp25_SHARES : Array (Option Value)}
    {t1_ZERO : Tok}
    {t2_ZERO : Tok}
    {p3_ZERO : Addr} {odp3_ZERO : Option Addr} {np3_ZERO : Nat} {slp3_ZERO : Array (Option Value)}
    (a_common : PySem.W.nsIn K mainGlobals "common" = some (some (.ref f_common)))
    (l_common : K.lookup f_common = some ⟨oc_common, od_common, .func (PySem.W.fnOf "common" "common" (defArgs (topS 4)) (defBody (topS 4)) (defScope (topS 4)) .none kV_common dc_common pm_common an_common cd_common ct_common), sl_common⟩)
    (c_common : PySem.W.codeIn K cd_common "common" = true)
    (k_common : PySem.W.keepIn K (.ref f_common) = true)
    (a_fraction : PySem.W.nsIn K mainGlobals "fraction" = some (some (.ref f_fraction)))
    (l_fraction : K.lookup f_fraction = some ⟨oc_fraction, od_fraction, .func (PySem.W.fnOf "fraction" "fraction" (defArgs (topS 5)) (defBody (topS 5)) (defScope (topS 5)) .none kV_fraction dc_fraction pm_fraction an_fraction cd_fraction ct_fraction), sl_fraction⟩)
    (c_fraction : PySem.W.codeIn K cd_fraction "fraction" = true)
    (k_fraction : PySem.W.keepIn K (.ref f_fraction) = true)
    (a_plus : PySem.W.nsIn K mainGlobals "plus" = some (some (.ref f_plus)))
    (l_plus : K.lookup f_plus = some ⟨oc_plus, od_plus, .func (PySem.W.fnOf "plus" "plus" (defArgs (topS 6)) (defBody (topS 6)) (defScope (topS 6)) .none kV_plus dc_plus pm_plus an_plus cd_plus ct_plus), sl_plus⟩)
    (c_plus : PySem.W.codeIn K cd_plus "plus" = true)
    (k_plus : PySem.W.keepIn K (.ref f_plus) = true)
    (a_minus : PySem.W.nsIn K mainGlobals "minus" = some (some (.ref f_minus)))
    (l_minus : K.lookup f_minus = some ⟨oc_minus, od_minus, .func (PySem.W.fnOf "minus" "minus" (defArgs (topS 7)) (defBody (topS 7)) (defScope (topS 7)) .none kV_minus dc_minus pm_minus an_minus cd_minus ct_minus), sl_minus⟩)
    (c_minus : PySem.W.codeIn K cd_minus "minus" = true)
    (k_minus : PySem.W.keepIn K (.ref f_minus) = true)
    (a_times : PySem.W.nsIn K mainGlobals "times" = some (some (.ref f_times)))
    (l_times : K.lookup f_times = some ⟨oc_times, od_times, .func (PySem.W.fnOf "times" "times" (defArgs (topS 8)) (defBody (topS 8)) (defScope (topS 8)) .none kV_times dc_times pm_times an_times cd_times ct_times), sl_times⟩)
    (c_times : PySem.W.codeIn K cd_times "times" = true)
    (k_times : PySem.W.keepIn K (.ref f_times) = true)
    (a_is_less : PySem.W.nsIn K mainGlobals "is_less" = some (some (.ref f_is_less)))
    (l_is_less : K.lookup f_is_less = some ⟨oc_is_less, od_is_less, .func (PySem.W.fnOf "is_less" "is_less" (defArgs (topS 9)) (defBody (topS 9)) (defScope (topS 9)) .none kV_is_less dc_is_less pm_is_less an_is_less cd_is_less ct_is_less), sl_is_less⟩)
    (c_is_less : PySem.W.codeIn K cd_is_less "is_less" = true)
    (k_is_less : PySem.W.keepIn K (.ref f_is_less) = true)
    (a_spread : PySem.W.nsIn K mainGlobals "spread" = some (some (.ref f_spread)))
    (l_spread : K.lookup f_spread = some ⟨oc_spread, od_spread, .func (PySem.W.fnOf "spread" "spread" (defArgs (topS 12)) (defBody (topS 12)) (defScope (topS 12)) .none kV_spread dc_spread pm_spread an_spread cd_spread ct_spread), sl_spread⟩)
    (c_spread : PySem.W.codeIn K cd_spread "spread" = true)
    (k_spread : PySem.W.keepIn K (.ref f_spread) = true)
    (a_inked : PySem.W.nsIn K mainGlobals "inked" = some (some (.ref f_inked)))
    (l_inked : K.lookup f_inked = some ⟨oc_inked, od_inked, .func (PySem.W.fnOf "inked" "inked" (defArgs (topS 13)) (defBody (topS 13)) (defScope (topS 13)) .none kV_inked dc_inked pm_inked an_inked cd_inked ct_inked), sl_inked⟩)
    (c_inked : PySem.W.codeIn K cd_inked "inked" = true)
    (k_inked : PySem.W.keepIn K (.ref f_inked) = true)
    (a__law_stream : PySem.W.nsIn K mainGlobals "_law_stream" = some (some (.ref f__law_stream)))
    (l__law_stream : K.lookup f__law_stream = some ⟨oc__law_stream, od__law_stream, .func (PySem.W.fnOf "_law_stream" "_law_stream" (defArgs (topS 15)) (defBody (topS 15)) (defScope (topS 15)) .none kV__law_stream dc__law_stream pm__law_stream an__law_stream cd__law_stream ct__law_stream), sl__law_stream⟩)
    (c__law_stream : PySem.W.codeIn K cd__law_stream "_law_stream" = true)
    (k__law_stream : PySem.W.keepIn K (.ref f__law_stream) = true)
    (a__law_draw : PySem.W.nsIn K mainGlobals "_law_draw" = some (some (.ref f__law_draw)))
    (l__law_draw : K.lookup f__law_draw = some ⟨oc__law_draw, od__law_draw, .func (PySem.W.fnOf "_law_draw" "_law_draw" (defArgs (topS 16)) (defBody (topS 16)) (defScope (topS 16)) .none kV__law_draw dc__law_draw pm__law_draw an__law_draw cd__law_draw ct__law_draw), sl__law_draw⟩)
    (c__law_draw : PySem.W.codeIn K cd__law_draw "_law_draw" = true)
    (k__law_draw : PySem.W.keepIn K (.ref f__law_draw) = true)
    (a__law_divisor : PySem.W.nsIn K mainGlobals "_law_divisor" = some (some (.ref f__law_divisor)))
    (l__law_divisor : K.lookup f__law_divisor = some ⟨oc__law_divisor, od__law_divisor, .func (PySem.W.fnOf "_law_divisor" "_law_divisor" (defArgs (topS 17)) (defBody (topS 17)) (defScope (topS 17)) .none kV__law_divisor dc__law_divisor pm__law_divisor an__law_divisor cd__law_divisor ct__law_divisor), sl__law_divisor⟩)
    (c__law_divisor : PySem.W.codeIn K cd__law_divisor "_law_divisor" = true)
    (k__law_divisor : PySem.W.keepIn K (.ref f__law_divisor) = true)
    (a__law_f : PySem.W.nsIn K mainGlobals "_law_f" = some (some (.ref f__law_f)))
    (l__law_f : K.lookup f__law_f = some ⟨oc__law_f, od__law_f, .func (PySem.W.fnOf "_law_f" "_law_f" (defArgs (topS 18)) (defBody (topS 18)) (defScope (topS 18)) .none kV__law_f dc__law_f pm__law_f an__law_f cd__law_f ct__law_f), sl__law_f⟩)
    (c__law_f : PySem.W.codeIn K cd__law_f "_law_f" = true)
    (k__law_f : PySem.W.keepIn K (.ref f__law_f) = true)
    (a__law_add : PySem.W.nsIn K mainGlobals "_law_add" = some (some (.ref f__law_add)))
    (l__law_add : K.lookup f__law_add = some ⟨oc__law_add, od__law_add, .func (PySem.W.fnOf "_law_add" "_law_add" (defArgs (topS 19)) (defBody (topS 19)) (defScope (topS 19)) .none kV__law_add dc__law_add pm__law_add an__law_add cd__law_add ct__law_add), sl__law_add⟩)
    (c__law_add : PySem.W.codeIn K cd__law_add "_law_add" = true)
    (k__law_add : PySem.W.keepIn K (.ref f__law_add) = true)
    (a__law_mul : PySem.W.nsIn K mainGlobals "_law_mul" = some (some (.ref f__law_mul)))
    (l__law_mul : K.lookup f__law_mul = some ⟨oc__law_mul, od__law_mul, .func (PySem.W.fnOf "_law_mul" "_law_mul" (defArgs (topS 20)) (defBody (topS 20)) (defScope (topS 20)) .none kV__law_mul dc__law_mul pm__law_mul an__law_mul cd__law_mul ct__law_mul), sl__law_mul⟩)
    (c__law_mul : PySem.W.codeIn K cd__law_mul "_law_mul" = true)
    (k__law_mul : PySem.W.keepIn K (.ref f__law_mul) = true)
    (a__law_neg : PySem.W.nsIn K mainGlobals "_law_neg" = some (some (.ref f__law_neg)))
    (l__law_neg : K.lookup f__law_neg = some ⟨oc__law_neg, od__law_neg, .func (PySem.W.fnOf "_law_neg" "_law_neg" (defArgs (topS 21)) (defBody (topS 21)) (defScope (topS 21)) .none kV__law_neg dc__law_neg pm__law_neg an__law_neg cd__law_neg ct__law_neg), sl__law_neg⟩)
    (c__law_neg : PySem.W.codeIn K cd__law_neg "_law_neg" = true)
    (k__law_neg : PySem.W.keepIn K (.ref f__law_neg) = true)
    (a__law_pick : PySem.W.nsIn K mainGlobals "_law_pick" = some (some (.ref f__law_pick)))
    (l__law_pick : K.lookup f__law_pick = some ⟨oc__law_pick, od__law_pick, .func (PySem.W.fnOf "_law_pick" "_law_pick" (defArgs (topS 23)) (defBody (topS 23)) (defScope (topS 23)) .none kV__law_pick dc__law_pick pm__law_pick an__law_pick cd__law_pick ct__law_pick), sl__law_pick⟩)
    (c__law_pick : PySem.W.codeIn K cd__law_pick "_law_pick" = true)
    (k__law_pick : PySem.W.keepIn K (.ref f__law_pick) = true)
    (a__law_same : PySem.W.nsIn K mainGlobals "_law_same" = some (some (.ref f__law_same)))
    (l__law_same : K.lookup f__law_same = some ⟨oc__law_same, od__law_same, .func (PySem.W.fnOf "_law_same" "_law_same" (defArgs (topS 24)) (defBody (topS 24)) (defScope (topS 24)) .none kV__law_same dc__law_same pm__law_same an__law_same cd__law_same ct__law_same), sl__law_same⟩)
    (c__law_same : PySem.W.codeIn K cd__law_same "_law_same" = true)
    (k__law_same : PySem.W.keepIn K (.ref f__law_same) = true)
    (a__law_spread : PySem.W.nsIn K mainGlobals "_law_spread" = some (some (.ref f__law_spread)))
    (l__law_spread : K.lookup f__law_spread = some ⟨oc__law_spread, od__law_spread, .func (PySem.W.fnOf "_law_spread" "_law_spread" (defArgs (topS 26)) (defBody (topS 26)) (defScope (topS 26)) .none kV__law_spread dc__law_spread pm__law_spread an__law_spread cd__law_spread ct__law_spread), sl__law_spread⟩)
    (c__law_spread : PySem.W.codeIn K cd__law_spread "_law_spread" = true)
    (k__law_spread : PySem.W.keepIn K (.ref f__law_spread) = true)
    (a_law : PySem.W.nsIn K mainGlobals "law" = some (some (.ref f_law)))
    (l_law : K.lookup f_law = some ⟨oc_law, od_law, .func (PySem.W.fnOf "law" "law" (defArgs (topS 27)) (defBody (topS 27)) (defScope (topS 27)) .none kV_law dc_law pm_law an_law cd_law ct_law), sl_law⟩)
    (c_law : PySem.W.codeIn K cd_law "law" = true)
    (k_law : PySem.W.keepIn K (.ref f_law) = true)
    (z_abs : PySem.W.nsIn K mainGlobals "abs" = some none)
    (z_all : PySem.W.nsIn K mainGlobals "all" = some none)
    (z_bool : PySem.W.nsIn K mainGlobals "bool" = some none)
    (z_dict : PySem.W.nsIn K mainGlobals "dict" = some none)
    (z_int : PySem.W.nsIn K mainGlobals "int" = some none)
    (z_isinstance : PySem.W.nsIn K mainGlobals "isinstance" = some none)
    (z_len : PySem.W.nsIn K mainGlobals "len" = some none)
    (z_list : PySem.W.nsIn K mainGlobals "list" = some none)
    (z_range : PySem.W.nsIn K mainGlobals "range" = some none)
    (z_str : PySem.W.nsIn K mainGlobals "str" = some none)
    (z_tuple : PySem.W.nsIn K mainGlobals "tuple" = some none)
    (a_HALF : PySem.W.nsIn K mainGlobals "HALF" = some (some (.ref p3_HALF)))
    (kp3_HALF : K.lookup p3_HALF = some ⟨.type "tuple", odp3_HALF, .seq #[(.int 1 t1_HALF), (.int 2 t2_HALF)] np3_HALF, slp3_HALF⟩)
    (a_ONE : PySem.W.nsIn K mainGlobals "ONE" = some (some (.ref p3_ONE)))
    (kp3_ONE : K.lookup p3_ONE = some ⟨.type "tuple", odp3_ONE, .seq #[(.int 1 t1_ONE), (.int 1 t2_ONE)] np3_ONE, slp3_ONE⟩)
    (a_SHARES : PySem.W.nsIn K mainGlobals "SHARES" = some (some (.ref p25_SHARES)))
    (kp25_SHARES : K.lookup p25_SHARES = some ⟨.type "tuple", odp25_SHARES, .seq #[(.ref p6_SHARES), (.ref p12_SHARES), (.ref p18_SHARES), (.ref p24_SHARES)] np25_SHARES, slp25_SHARES⟩)
    (kp24_SHARES : K.lookup p24_SHARES = some ⟨.type "tuple", odp24_SHARES, .seq #[(.int 1 t19_SHARES), (.int 1 t20_SHARES), (.ref p23_SHARES)] np24_SHARES, slp24_SHARES⟩)
    (kp23_SHARES : K.lookup p23_SHARES = some ⟨.type "tuple", odp23_SHARES, .seq #[(.int 1 t21_SHARES), (.int 16 t22_SHARES)] np23_SHARES, slp23_SHARES⟩)
    (kp18_SHARES : K.lookup p18_SHARES = some ⟨.type "tuple", odp18_SHARES, .seq #[(.int 0 t13_SHARES), (.int 1 t14_SHARES), (.ref p17_SHARES)] np18_SHARES, slp18_SHARES⟩)
    (kp17_SHARES : K.lookup p17_SHARES = some ⟨.type "tuple", odp17_SHARES, .seq #[(.int 5 t15_SHARES), (.int 16 t16_SHARES)] np17_SHARES, slp17_SHARES⟩)
    (kp12_SHARES : K.lookup p12_SHARES = some ⟨.type "tuple", odp12_SHARES, .seq #[(.int (-1) t7_SHARES), (.int 1 t8_SHARES), (.ref p11_SHARES)] np12_SHARES, slp12_SHARES⟩)
    (kp11_SHARES : K.lookup p11_SHARES = some ⟨.type "tuple", odp11_SHARES, .seq #[(.int 3 t9_SHARES), (.int 16 t10_SHARES)] np11_SHARES, slp11_SHARES⟩)
    (kp6_SHARES : K.lookup p6_SHARES = some ⟨.type "tuple", odp6_SHARES, .seq #[(.int 1 t1_SHARES), (.int 0 t2_SHARES), (.ref p5_SHARES)] np6_SHARES, slp6_SHARES⟩)
    (kp5_SHARES : K.lookup p5_SHARES = some ⟨.type "tuple", odp5_SHARES, .seq #[(.int 7 t3_SHARES), (.int 16 t4_SHARES)] np5_SHARES, slp5_SHARES⟩)
    (a_ZERO : PySem.W.nsIn K mainGlobals "ZERO" = some (some (.ref p3_ZERO)))
    (kp3_ZERO : K.lookup p3_ZERO = some ⟨.type "tuple", odp3_ZERO, .seq #[(.int 0 t1_ZERO), (.int 1 t2_ZERO)] np3_ZERO, slp3_ZERO⟩) :
    ∃ fd : FuncData, (∀ (s : Shared) (v : Value), BindsTo s fd ⟨[v], []⟩ [("script", v)]) ∧ ∀ base : Heap, K.In base → base.Ns mainGlobals mg → FnOk l.prog w K mg base CX0 13 fa fd ["script"] (fun vs H Q E => spF K mg 1 F_law vs H Q E0) := by
  have e : f_law = fa := by
    have e := (PySem.W.mg_of X G a_law).symm.trans hfa
    cases e
    rfl
  subst e
  have T : ∃ T : Txt K mg, T.f_law = f_law ∧ T.fd_law = PySem.W.fnOf "law" "law" (defArgs (topS 27)) (defBody (topS 27)) (defScope (topS 27)) .none kV_law dc_law pm_law an_law cd_law ct_law := ⟨{
    f_common := f_common, fd_common := _, F_common := fun_mk (st := topS 4) l_common c_common k_common, b_common := (fun_mk (st := topS 4) l_common c_common k_common).binds (ps := ["a", "b"]) (fun _ _ _ _ _ _ us hl => match us, hl with | [_, _], _ => rfl), g_common := PySem.W.mg_of X G a_common,
    f_fraction := f_fraction, fd_fraction := _, F_fraction := fun_mk (st := topS 5) l_fraction c_fraction k_fraction, b_fraction := (fun_mk (st := topS 5) l_fraction c_fraction k_fraction).binds (ps := ["n", "d"]) (fun _ _ _ _ _ _ us hl => match us, hl with | [_, _], _ => rfl), g_fraction := PySem.W.mg_of X G a_fraction,
    f_plus := f_plus, fd_plus := _, F_plus := fun_mk (st := topS 6) l_plus c_plus k_plus, b_plus := (fun_mk (st := topS 6) l_plus c_plus k_plus).binds (ps := ["a", "b"]) (fun _ _ _ _ _ _ us hl => match us, hl with | [_, _], _ => rfl), g_plus := PySem.W.mg_of X G a_plus,
    f_minus := f_minus, fd_minus := _, F_minus := fun_mk (st := topS 7) l_minus c_minus k_minus, b_minus := (fun_mk (st := topS 7) l_minus c_minus k_minus).binds (ps := ["a", "b"]) (fun _ _ _ _ _ _ us hl => match us, hl with | [_, _], _ => rfl), g_minus := PySem.W.mg_of X G a_minus,
    f_times := f_times, fd_times := _, F_times := fun_mk (st := topS 8) l_times c_times k_times, b_times := (fun_mk (st := topS 8) l_times c_times k_times).binds (ps := ["a", "b"]) (fun _ _ _ _ _ _ us hl => match us, hl with | [_, _], _ => rfl), g_times := PySem.W.mg_of X G a_times,
    f_is_less := f_is_less, fd_is_less := _, F_is_less := fun_mk (st := topS 9) l_is_less c_is_less k_is_less, b_is_less := (fun_mk (st := topS 9) l_is_less c_is_less k_is_less).binds (ps := ["a", "b"]) (fun _ _ _ _ _ _ us hl => match us, hl with | [_, _], _ => rfl), g_is_less := PySem.W.mg_of X G a_is_less,
    f_spread := f_spread, fd_spread := _, F_spread := fun_mk (st := topS 12) l_spread c_spread k_spread, b_spread := (fun_mk (st := topS 12) l_spread c_spread k_spread).binds (ps := ["rows"]) (fun _ _ _ _ _ _ us hl => match us, hl with | [_], _ => rfl), g_spread := PySem.W.mg_of X G a_spread,
    f_inked := f_inked, fd_inked := _, F_inked := fun_mk (st := topS 13) l_inked c_inked k_inked, b_inked := (fun_mk (st := topS 13) l_inked c_inked k_inked).binds (ps := ["rows"]) (fun _ _ _ _ _ _ us hl => match us, hl with | [_], _ => rfl), g_inked := PySem.W.mg_of X G a_inked,
    f__law_stream := f__law_stream, fd__law_stream := _, F__law_stream := fun_mk (st := topS 15) l__law_stream c__law_stream k__law_stream, b__law_stream := (fun_mk (st := topS 15) l__law_stream c__law_stream k__law_stream).binds (ps := ["script"]) (fun _ _ _ _ _ _ us hl => match us, hl with | [_], _ => rfl), g__law_stream := PySem.W.mg_of X G a__law_stream,
    f__law_draw := f__law_draw, fd__law_draw := _, F__law_draw := fun_mk (st := topS 16) l__law_draw c__law_draw k__law_draw, b__law_draw := (fun_mk (st := topS 16) l__law_draw c__law_draw k__law_draw).binds (ps := ["stream", "many"]) (fun _ _ _ _ _ _ us hl => match us, hl with | [_, _], _ => rfl), g__law_draw := PySem.W.mg_of X G a__law_draw,
    f__law_divisor := f__law_divisor, fd__law_divisor := _, F__law_divisor := fun_mk (st := topS 17) l__law_divisor c__law_divisor k__law_divisor, b__law_divisor := (fun_mk (st := topS 17) l__law_divisor c__law_divisor k__law_divisor).binds (ps := ["a", "b"]) (fun _ _ _ _ _ _ us hl => match us, hl with | [_, _], _ => rfl), g__law_divisor := PySem.W.mg_of X G a__law_divisor,
    f__law_f := f__law_f, fd__law_f := _, F__law_f := fun_mk (st := topS 18) l__law_f c__law_f k__law_f, b__law_f := (fun_mk (st := topS 18) l__law_f c__law_f k__law_f).binds (ps := ["n", "d"]) (fun _ _ _ _ _ _ us hl => match us, hl with | [_, _], _ => rfl), g__law_f := PySem.W.mg_of X G a__law_f,
    f__law_add := f__law_add, fd__law_add := _, F__law_add := fun_mk (st := topS 19) l__law_add c__law_add k__law_add, b__law_add := (fun_mk (st := topS 19) l__law_add c__law_add k__law_add).binds (ps := ["a", "b"]) (fun _ _ _ _ _ _ us hl => match us, hl with | [_, _], _ => rfl), g__law_add := PySem.W.mg_of X G a__law_add,
    f__law_mul := f__law_mul, fd__law_mul := _, F__law_mul := fun_mk (st := topS 20) l__law_mul c__law_mul k__law_mul, b__law_mul := (fun_mk (st := topS 20) l__law_mul c__law_mul k__law_mul).binds (ps := ["a", "b"]) (fun _ _ _ _ _ _ us hl => match us, hl with | [_, _], _ => rfl), g__law_mul := PySem.W.mg_of X G a__law_mul,
    f__law_neg := f__law_neg, fd__law_neg := _, F__law_neg := fun_mk (st := topS 21) l__law_neg c__law_neg k__law_neg, b__law_neg := (fun_mk (st := topS 21) l__law_neg c__law_neg k__law_neg).binds (ps := ["a"]) (fun _ _ _ _ _ _ us hl => match us, hl with | [_], _ => rfl), g__law_neg := PySem.W.mg_of X G a__law_neg,
    f__law_pick := f__law_pick, fd__law_pick := _, F__law_pick := fun_mk (st := topS 23) l__law_pick c__law_pick k__law_pick, b__law_pick := (fun_mk (st := topS 23) l__law_pick c__law_pick k__law_pick).binds (ps := ["stream", "rows"]) (fun _ _ _ _ _ _ us hl => match us, hl with | [_, _], _ => rfl), g__law_pick := PySem.W.mg_of X G a__law_pick,
    f__law_same := f__law_same, fd__law_same := _, F__law_same := fun_mk (st := topS 24) l__law_same c__law_same k__law_same, b__law_same := (fun_mk (st := topS 24) l__law_same c__law_same k__law_same).binds (ps := ["one", "two"]) (fun _ _ _ _ _ _ us hl => match us, hl with | [_, _], _ => rfl), g__law_same := PySem.W.mg_of X G a__law_same,
    f__law_spread := f__law_spread, fd__law_spread := _, F__law_spread := fun_mk (st := topS 26) l__law_spread c__law_spread k__law_spread, b__law_spread := (fun_mk (st := topS 26) l__law_spread c__law_spread k__law_spread).binds (ps := ["rows"]) (fun _ _ _ _ _ _ us hl => match us, hl with | [_], _ => rfl), g__law_spread := PySem.W.mg_of X G a__law_spread,
    f_law := f_law, fd_law := _, F_law := fun_mk (st := topS 27) l_law c_law k_law, b_law := (fun_mk (st := topS 27) l_law c_law k_law).binds (ps := ["script"]) (fun _ _ _ _ _ _ us hl => match us, hl with | [_], _ => rfl), g_law := PySem.W.mg_of X G a_law,
    z_abs := PySem.W.mg_none_of X G z_abs,
    z_all := PySem.W.mg_none_of X G z_all,
    z_bool := PySem.W.mg_none_of X G z_bool,
    z_dict := PySem.W.mg_none_of X G z_dict,
    z_int := PySem.W.mg_none_of X G z_int,
    z_isinstance := PySem.W.mg_none_of X G z_isinstance,
    z_len := PySem.W.mg_none_of X G z_len,
    z_list := PySem.W.mg_none_of X G z_list,
    z_range := PySem.W.mg_none_of X G z_range,
    z_str := PySem.W.mg_none_of X G z_str,
    z_tuple := PySem.W.mg_none_of X G z_tuple,
    u_HALF := (.ref p3_HALF), v_HALF := (.ref p3_HALF), g_HALF := PySem.W.mg_of X G a_HALF, r_HALF := rfl, c_HALF := (always_tup kp3_HALF (.cons (show RelV (.int 1) (.int 1 t1_HALF) from ⟨_, rfl⟩) (.cons (show RelV (.int 2) (.int 2 t2_HALF) from ⟨_, rfl⟩) .nil)) (alws_cons (fun _ _ => Rv.int') (alws_cons (fun _ _ => Rv.int') alws_nil)) (Nat.le_of_ble_eq_true rfl)),
    u_ONE := (.ref p3_ONE), v_ONE := (.ref p3_ONE), g_ONE := PySem.W.mg_of X G a_ONE, r_ONE := rfl, c_ONE := (always_tup kp3_ONE (.cons (show RelV (.int 1) (.int 1 t1_ONE) from ⟨_, rfl⟩) (.cons (show RelV (.int 1) (.int 1 t2_ONE) from ⟨_, rfl⟩) .nil)) (alws_cons (fun _ _ => Rv.int') (alws_cons (fun _ _ => Rv.int') alws_nil)) (Nat.le_of_ble_eq_true rfl)),
    u_SHARES := (.ref p25_SHARES), v_SHARES := (.ref p25_SHARES), g_SHARES := PySem.W.mg_of X G a_SHARES, r_SHARES := rfl, c_SHARES := (always_tup kp25_SHARES (.cons (show RelV (.ref p6_SHARES) (.ref p6_SHARES) from rfl) (.cons (show RelV (.ref p12_SHARES) (.ref p12_SHARES) from rfl) (.cons (show RelV (.ref p18_SHARES) (.ref p18_SHARES) from rfl) (.cons (show RelV (.ref p24_SHARES) (.ref p24_SHARES) from rfl) .nil)))) (alws_cons (always_tup kp6_SHARES (.cons (show RelV (.int 1) (.int 1 t1_SHARES) from ⟨_, rfl⟩) (.cons (show RelV (.int 0) (.int 0 t2_SHARES) from ⟨_, rfl⟩) (.cons (show RelV (.ref p5_SHARES) (.ref p5_SHARES) from rfl) .nil))) (alws_cons (fun _ _ => Rv.int') (alws_cons (fun _ _ => Rv.int') (alws_cons (always_tup kp5_SHARES (.cons (show RelV (.int 7) (.int 7 t3_SHARES) from ⟨_, rfl⟩) (.cons (show RelV (.int 16) (.int 16 t4_SHARES) from ⟨_, rfl⟩) .nil)) (alws_cons (fun _ _ => Rv.int') (alws_cons (fun _ _ => Rv.int') alws_nil)) (Nat.le_of_ble_eq_true rfl)) alws_nil))) (Nat.le_of_ble_eq_true rfl)) (alws_cons (always_tup kp12_SHARES (.cons (show RelV (.int (-1)) (.int (-1) t7_SHARES) from ⟨_, rfl⟩) (.cons (show RelV (.int 1) (.int 1 t8_SHARES) from ⟨_, rfl⟩) (.cons (show RelV (.ref p11_SHARES) (.ref p11_SHARES) from rfl) .nil))) (alws_cons (fun _ _ => Rv.int') (alws_cons (fun _ _ => Rv.int') (alws_cons (always_tup kp11_SHARES (.cons (show RelV (.int 3) (.int 3 t9_SHARES) from ⟨_, rfl⟩) (.cons (show RelV (.int 16) (.int 16 t10_SHARES) from ⟨_, rfl⟩) .nil)) (alws_cons (fun _ _ => Rv.int') (alws_cons (fun _ _ => Rv.int') alws_nil)) (Nat.le_of_ble_eq_true rfl)) alws_nil))) (Nat.le_of_ble_eq_true rfl)) (alws_cons (always_tup kp18_SHARES (.cons (show RelV (.int 0) (.int 0 t13_SHARES) from ⟨_, rfl⟩) (.cons (show RelV (.int 1) (.int 1 t14_SHARES) from ⟨_, rfl⟩) (.cons (show RelV (.ref p17_SHARES) (.ref p17_SHARES) from rfl) .nil))) (alws_cons (fun _ _ => Rv.int') (alws_cons (fun _ _ => Rv.int') (alws_cons (always_tup kp17_SHARES (.cons (show RelV (.int 5) (.int 5 t15_SHARES) from ⟨_, rfl⟩) (.cons (show RelV (.int 16) (.int 16 t16_SHARES) from ⟨_, rfl⟩) .nil)) (alws_cons (fun _ _ => Rv.int') (alws_cons (fun _ _ => Rv.int') alws_nil)) (Nat.le_of_ble_eq_true rfl)) alws_nil))) (Nat.le_of_ble_eq_true rfl)) (alws_cons (always_tup kp24_SHARES (.cons (show RelV (.int 1) (.int 1 t19_SHARES) from ⟨_, rfl⟩) (.cons (show RelV (.int 1) (.int 1 t20_SHARES) from ⟨_, rfl⟩) (.cons (show RelV (.ref p23_SHARES) (.ref p23_SHARES) from rfl) .nil))) (alws_cons (fun _ _ => Rv.int') (alws_cons (fun _ _ => Rv.int') (alws_cons (always_tup kp23_SHARES (.cons (show RelV (.int 1) (.int 1 t21_SHARES) from ⟨_, rfl⟩) (.cons (show RelV (.int 16) (.int 16 t22_SHARES) from ⟨_, rfl⟩) .nil)) (alws_cons (fun _ _ => Rv.int') (alws_cons (fun _ _ => Rv.int') alws_nil)) (Nat.le_of_ble_eq_true rfl)) alws_nil))) (Nat.le_of_ble_eq_true rfl)) alws_nil)))) (Nat.le_of_ble_eq_true rfl)),
    u_ZERO := (.ref p3_ZERO), v_ZERO := (.ref p3_ZERO), g_ZERO := PySem.W.mg_of X G a_ZERO, r_ZERO := rfl, c_ZERO := (always_tup kp3_ZERO (.cons (show RelV (.int 0) (.int 0 t1_ZERO) from ⟨_, rfl⟩) (.cons (show RelV (.int 1) (.int 1 t2_ZERO) from ⟨_, rfl⟩) .nil)) (alws_cons (fun _ _ => Rv.int') (alws_cons (fun _ _ => Rv.int') alws_nil)) (Nat.le_of_ble_eq_true rfl)) }, rfl, rfl⟩
  obtain ⟨T, e1, e2⟩ := T
  have hk : ∀ base : Heap, FnOk l.prog w K mg base CX0 13 T.f_law T.fd_law ["script"] (fun vs H Q E => spF K mg 1 F_law vs H Q E0) := fun base => ok_law T
  rw [e1, e2] at hk
  exact ⟨_, fun s v => .of_eq rfl, fun base _ _ => hk base⟩
end Law
open PySem PySem.W PyProof.Rows in
set_option maxHeartbeats 0 in
theorem PySem.Challenge.cw_pagehold_k37_whole_spread_errors_holds : PySem.Challenge.rw_pagehold_k37_whole_spread_errors.Holds := by
  w_on; o_law; k_head; (case hw => w_witness2)
  k_fill
  refine L2.walk_of (l := PySem.Challenge.rw_pagehold_k37_whole_spread_errors) (n := 63) (k := 13) (x := "script") (CX := fun _ => L2.CX0) (sp := fun w => fun vs H Q E => ∀ mg, MM.spF _ mg 1 Law.F_law vs H Q L2.E0) rfl (by decide) rfl ⟨rfl, by decide, by decide⟩ (fun w h Y => PySem.W.kIn_of Y) ?F (fun _ H a ns hl o hS => fun mg => MM.law_end Law.holds H a ns hl o hS) (fun _ _ _ _ _ h => h)
  case F =>
    intro w mg fa h KX G hmg
    refine' MM.all_sp (Law.all_mk KX G hmg ?a_common ?l_common ?c_common ?k_common ?a_fraction ?l_fraction ?c_fraction ?k_fraction ?a_plus ?l_plus ?c_plus ?k_plus ?a_minus ?l_minus ?c_minus ?k_minus ?a_times ?l_times ?c_times ?k_times ?a_is_less ?l_is_less ?c_is_less ?k_is_less ?a_spread ?l_spread ?c_spread ?k_spread ?a_inked ?l_inked ?c_inked ?k_inked ?a__law_stream ?l__law_stream ?c__law_stream ?k__law_stream ?a__law_draw ?l__law_draw ?c__law_draw ?k__law_draw ?a__law_divisor ?l__law_divisor ?c__law_divisor ?k__law_divisor ?a__law_f ?l__law_f ?c__law_f ?k__law_f ?a__law_add ?l__law_add ?c__law_add ?k__law_add ?a__law_mul ?l__law_mul ?c__law_mul ?k__law_mul ?a__law_neg ?l__law_neg ?c__law_neg ?k__law_neg ?a__law_pick ?l__law_pick ?c__law_pick ?k__law_pick ?a__law_same ?l__law_same ?c__law_same ?k__law_same ?a__law_spread ?l__law_spread ?c__law_spread ?k__law_spread ?a_law ?l_law ?c_law ?k_law ?z_abs ?z_all ?z_bool ?z_dict ?z_int ?z_isinstance ?z_len ?z_list ?z_range ?z_str ?z_tuple ?a_HALF ?kp3_HALF ?a_ONE ?kp3_ONE ?a_SHARES ?kp25_SHARES ?kp24_SHARES ?kp23_SHARES ?kp18_SHARES ?kp17_SHARES ?kp12_SHARES ?kp11_SHARES ?kp6_SHARES ?kp5_SHARES ?a_ZERO ?kp3_ZERO)
    (case a_common => k_is)
    (case l_common => k_is)
    (case c_common => k_is)
    (case k_common => k_is)
    (case a_fraction => k_is)
    (case l_fraction => k_is)
    (case c_fraction => k_is)
    (case k_fraction => k_is)
    (case a_plus => k_is)
    (case l_plus => k_is)
    (case c_plus => k_is)
    (case k_plus => k_is)
    (case a_minus => k_is)
    (case l_minus => k_is)
    (case c_minus => k_is)
    (case k_minus => k_is)
    (case a_times => k_is)
    (case l_times => k_is)
    (case c_times => k_is)
    (case k_times => k_is)
    (case a_is_less => k_is)
    (case l_is_less => k_is)
    (case c_is_less => k_is)
    (case k_is_less => k_is)
    (case a_spread => k_is)
    (case l_spread => k_is)
    (case c_spread => k_is)
    (case k_spread => k_is)
    (case a_inked => k_is)
    (case l_inked => k_is)
    (case c_inked => k_is)
    (case k_inked => k_is)
    (case a__law_stream => k_is)
    (case l__law_stream => k_is)
    (case c__law_stream => k_is)
    (case k__law_stream => k_is)
    (case a__law_draw => k_is)
    (case l__law_draw => k_is)
    (case c__law_draw => k_is)
    (case k__law_draw => k_is)
    (case a__law_divisor => k_is)
    (case l__law_divisor => k_is)
    (case c__law_divisor => k_is)
    (case k__law_divisor => k_is)
    (case a__law_f => k_is)
    (case l__law_f => k_is)
    (case c__law_f => k_is)
    (case k__law_f => k_is)
    (case a__law_add => k_is)
    (case l__law_add => k_is)
    (case c__law_add => k_is)
    (case k__law_add => k_is)
    (case a__law_mul => k_is)
    (case l__law_mul => k_is)
    (case c__law_mul => k_is)
    (case k__law_mul => k_is)
    (case a__law_neg => k_is)
    (case l__law_neg => k_is)
    (case c__law_neg => k_is)
    (case k__law_neg => k_is)
    (case a__law_pick => k_is)
    (case l__law_pick => k_is)
    (case c__law_pick => k_is)
    (case k__law_pick => k_is)
    (case a__law_same => k_is)
    (case l__law_same => k_is)
    (case c__law_same => k_is)
    (case k__law_same => k_is)
    (case a__law_spread => k_is)
    (case l__law_spread => k_is)
    (case c__law_spread => k_is)
    (case k__law_spread => k_is)
    (case a_law => k_is)
    (case l_law => k_is)
    (case c_law => k_is)
    (case k_law => k_is)
    (case z_abs => k_is)
    (case z_all => k_is)
    (case z_bool => k_is)
    (case z_dict => k_is)
    (case z_int => k_is)
    (case z_isinstance => k_is)
    (case z_len => k_is)
    (case z_list => k_is)
    (case z_range => k_is)
    (case z_str => k_is)
    (case z_tuple => k_is)
    (case a_HALF => k_is)
    (case kp3_HALF => k_is)
    (case a_ONE => k_is)
    (case kp3_ONE => k_is)
    (case a_SHARES => k_is)
    (case kp25_SHARES => k_is)
    (case kp24_SHARES => k_is)
    (case kp23_SHARES => k_is)
    (case kp18_SHARES => k_is)
    (case kp17_SHARES => k_is)
    (case kp12_SHARES => k_is)
    (case kp11_SHARES => k_is)
    (case kp6_SHARES => k_is)
    (case kp5_SHARES => k_is)
    (case a_ZERO => k_is)
    (case kp3_ZERO => k_is)
