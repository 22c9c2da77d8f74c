import PyProof.Rows.All
import Wide.All
import OpenK.AllK
import Wide.FinOn
import HandS.ForMost
import KE.SortData
import KE.KDictKeyed
import PyProof.StrBlock2
import HandS.TupAny
import HandS.More
import HandS.Iter
import HandS.IsInst
import KE.KDictCopyH
import KE.KDictSum
import KE.KDictDisplayH
import HandS.SetKeys
import HandS.SetFor
import HandS.HeadEnd
import PySem.Challenge.RW_warden_k46_whole_schemas_told_otherwise
set_option Elab.async false
set_option linter.all false
set_option maxRecDepth 100000
set_option autoImplicit false
/-! D1: the data layer. Values as data (Dt), what a def's names hold (Slot), the heap told by it (Rep), the judgements. -/
namespace DL
open PySem PySem.Spec L2

/-- data: what is never changed once it is shared -/
inductive Dt where
  | non | bl (b : Bool) | int (i : Int) | str (x : Str)
  | lst (ds : List Dt) | tup (ds : List Dt)
  /-- a locked list (the script); a dict by ints and texts; by tuples of these; by nested keys (this one is never shared) -/
  | frz (ds : List Dt) | dK (kvs : List (Key × Dt)) | dT (kvs : List (List Key × Dt)) | dN (kvs : List (NestedKey × Dt))

mutual
/-- the value v is the data d, by the shared part of the heap -/
inductive Is (F : Hp) : Dt → V → Prop
  | non : Is F .non .non
  | bl (b : Bool) : Is F (.bl b) (.bl b)
  | int (i : Int) : Is F (.int i) (.int i)
  | str (x : Str) : Is F (.str x) (.str x)
  | lst {a : Addr} {xs : List V} {ds : List Dt} : F a = some (.lst xs) → IsAll F ds xs → Is F (.lst ds) (.ref a)
  | frz {a : Addr} {o : Obj} {xs : List V} {ds : List Dt} : F a = some (.frz o (.lst xs)) → IsAll F ds xs → Is F (.frz ds) (.ref a)
  | tup {a : Addr} {xs : List V} {ds : List Dt} : F a = some (.tup xs) → IsAll F ds xs → Is F (.tup ds) (.ref a)
  | dK {a : Addr} {xs : List (Key × V)} {ds : List (Key × Dt)} : F a = some (.dK xs) → IsK F ds xs → Is F (.dK ds) (.ref a)
  | dT {a : Addr} {xs : List (List Key × V)} {ds : List (List Key × Dt)} : F a = some (.dT xs) → IsT F ds xs → Is F (.dT ds) (.ref a)
inductive IsAll (F : Hp) : List Dt → List V → Prop
  | nil : IsAll F [] []
  | cons {d : Dt} {v : V} {ds : List Dt} {vs : List V} : Is F d v → IsAll F ds vs → IsAll F (d :: ds) (v :: vs)
inductive IsK (F : Hp) : List (Key × Dt) → List (Key × V) → Prop
  | nil : IsK F [] []
  | cons {k : Key} {d : Dt} {v : V} {ds : List (Key × Dt)} {vs : List (Key × V)} : Is F d v → IsK F ds vs → IsK F ((k, d) :: ds) ((k, v) :: vs)
inductive IsT (F : Hp) : List (List Key × Dt) → List (List Key × V) → Prop
  | nil : IsT F [] []
  | cons {k : List Key} {d : Dt} {v : V} {ds : List (List Key × Dt)} {vs : List (List Key × V)} : Is F d v → IsT F ds vs → IsT F ((k, d) :: ds) ((k, v) :: vs)
end

theorem rd_mono {F F' : Hp} {a : Addr} {u : HO} (e : Same F F') (h : Rd F a u) : Rd F' a u := by
  rcases h with h | ⟨o, h⟩
  · exact .inl (e a _ h)
  · exact .inr ⟨o, e a _ h⟩
mutual
theorem Is.mono {F F' : Hp} (e : Same F F') : ∀ {d : Dt} {v : V}, Is F d v → Is F' d v
  | _, _, .non => .non
  | _, _, .bl b => .bl b
  | _, _, .int i => .int i
  | _, _, .str x => .str x
  | _, _, .lst h q => .lst (e _ _ h) (IsAll.mono e q)
  | _, _, .frz h q => .frz (e _ _ h) (IsAll.mono e q)
  | _, _, .tup h q => .tup (e _ _ h) (IsAll.mono e q)
  | _, _, .dK h q => .dK (e _ _ h) (IsK.mono e q)
  | _, _, .dT h q => .dT (e _ _ h) (IsT.mono e q)
theorem IsAll.mono {F F' : Hp} (e : Same F F') : ∀ {ds : List Dt} {vs : List V}, IsAll F ds vs → IsAll F' ds vs
  | _, _, .nil => .nil
  | _, _, .cons h t => .cons (Is.mono e h) (IsAll.mono e t)
theorem IsK.mono {F F' : Hp} (e : Same F F') : ∀ {ds : List (Key × Dt)} {vs : List (Key × V)}, IsK F ds vs → IsK F' ds vs
  | _, _, .nil => .nil
  | _, _, .cons h t => .cons (Is.mono e h) (IsK.mono e t)
theorem IsT.mono {F F' : Hp} (e : Same F F') : ∀ {ds : List (List Key × Dt)} {vs : List (List Key × V)}, IsT F ds vs → IsT F' ds vs
  | _, _, .nil => .nil
  | _, _, .cons h t => .cons (Is.mono e h) (IsT.mono e t)
end
theorem IsAll.length {F : Hp} : ∀ {ds : List Dt} {vs : List V}, IsAll F ds vs → ds.length = vs.length
  | _, _, .nil => rfl
  | _, _, .cons _ t => congrArg (· + 1) (IsAll.length t)
theorem IsAll.get {F : Hp} : ∀ {ds : List Dt} {vs : List V} {i : Nat} {d : Dt}, IsAll F ds vs → ds[i]? = some d → ∃ v, vs[i]? = some v ∧ Is F d v
  | _, _, _, _, .nil, e => by simp at e
  | _, _, 0, _, .cons h _, e => ⟨_, rfl, by simp at e; rw [← e]; exact h⟩
  | _, _, i + 1, _, .cons _ t, e => by
    obtain ⟨v, h1, h2⟩ := IsAll.get (i := i) t (by simpa using e)
    exact ⟨v, by simpa using h1, h2⟩
theorem IsAll.get' {F : Hp} : ∀ {ds : List Dt} {vs : List V} {i : Nat} {v : V}, IsAll F ds vs → vs[i]? = some v → ∃ d, ds[i]? = some d ∧ Is F d v
  | _, _, _, _, .nil, e => by simp at e
  | _, _, 0, _, .cons h _, e => ⟨_, rfl, by simp at e; rw [← e]; exact h⟩
  | _, _, i + 1, _, .cons _ t, e => by
    obtain ⟨v, h1, h2⟩ := IsAll.get' (i := i) t (by simpa using e)
    exact ⟨v, by simpa using h1, h2⟩
theorem IsAll.append {F : Hp} : ∀ {ds es : List Dt} {vs ws : List V}, IsAll F ds vs → IsAll F es ws → IsAll F (ds ++ es) (vs ++ ws)
  | _, _, _, _, .nil, s => s
  | _, _, _, _, .cons h t, s => .cons h (IsAll.append t s)
theorem IsAll.set {F : Hp} {d : Dt} {v : V} (r : Is F d v) : ∀ {ds : List Dt} {vs : List V} (i : Nat), IsAll F ds vs → IsAll F (ds.set i d) (vs.set i v)
  | _, _, _, .nil => .nil
  | _, _, 0, .cons _ t => .cons r t
  | _, _, i + 1, .cons q t => .cons q (IsAll.set r i t)
theorem IsAll.take {F : Hp} : ∀ {ds : List Dt} {vs : List V} (n : Nat), IsAll F ds vs → IsAll F (ds.take n) (vs.take n)
  | _, _, 0, _ => .nil
  | _, _, _ + 1, .nil => .nil
  | _, _, n + 1, .cons r t => .cons r (IsAll.take n t)
theorem IsAll.drop {F : Hp} : ∀ {ds : List Dt} {vs : List V} (n : Nat), IsAll F ds vs → IsAll F (ds.drop n) (vs.drop n)
  | _, _, 0, r => r
  | _, _, _ + 1, .nil => .nil
  | _, _, n + 1, .cons _ t => IsAll.drop n t
theorem IsAll.reverse {F : Hp} : ∀ {ds : List Dt} {vs : List V}, IsAll F ds vs → IsAll F ds.reverse vs.reverse
  | _, _, .nil => .nil
  | _, _, .cons r t => by
    rw [List.reverse_cons, List.reverse_cons]
    exact IsAll.append (IsAll.reverse t) (.cons r .nil)
/-- from the items' side -/
theorem isAll_ints {F : Hp} : ∀ {ns : List Int} {vs : List V}, IsAll F (ns.map Dt.int) vs → vs = ns.map V.int
  | [], _, .nil => rfl
  | _ :: _, _, .cons (.int _) t => by rw [isAll_ints t]; rfl
theorem isAll_of_ints {F : Hp} : ∀ ns : List Int, IsAll F (ns.map Dt.int) (ns.map V.int)
  | [] => .nil
  | i :: r => .cons (.int i) (isAll_of_ints r)
theorem isAll_strs {F : Hp} : ∀ {ns : List Str} {vs : List V}, IsAll F (ns.map Dt.str) vs → vs = ns.map V.str
  | [], _, .nil => rfl
  | _ :: _, _, .cons (.str _) t => by rw [isAll_strs t]; rfl
theorem isAll_of_strs {F : Hp} : ∀ ns : List Str, IsAll F (ns.map Dt.str) (ns.map V.str)
  | [] => .nil
  | i :: r => .cons (.str i) (isAll_of_strs r)
theorem isAll_bls {F : Hp} : ∀ {ns : List Bool} {vs : List V}, IsAll F (ns.map Dt.bl) vs → vs = ns.map V.bl
  | [], _, .nil => rfl
  | _ :: _, _, .cons (.bl _) t => by rw [isAll_bls t]; rfl

/-! ### what a name may hold that is still changed -/
/-- the entries of a dict whose keys are nested: the object at a -/
def NObj (P : Program) (w : World) (a : Addr) (xs : List (NestedKey × Addr × Value)) : HO :=
  .ext fun h => (a == sysModules) = false ∧ ∃ o es ep, h.get? a = some o ∧ o.ExactDict ∧ o.data = .dict es ep ∧ es.toList = xs.map (entryOfKey (nestedKind P w)) ∧ (xs.map (·.1)).Nodup
mutual
/-- a nested key as data -/
def nkD : NestedKey → Dt
  | .none => .non
  | .num i => .int i
  | .text x => .str x
  | .tup ks => .tup (nkDs ks)
def nkDs : List NestedKey → List Dt
  | [] => []
  | k :: ks => nkD k :: nkDs ks
end
/-- the entries: the key's tuple is shared, the value is data -/
abbrev NRel (F : Hp) : List (NestedKey × Dt) → List (NestedKey × Addr × Value) → Prop :=
  Paired fun p q => p.1 = q.1 ∧ p.1.depth ≤ 8 ∧ Is F (nkD p.1) (.ref q.2.1) ∧ ∃ v, RelV v q.2.2 ∧ Is F p.2 v
/-- what stands at the address of what is still changed -/
def Top (P : Program) (w : World) (F H : Hp) : Dt → Addr → Prop
  | .lst ds, a => ∃ xs, H a = some (.lst xs) ∧ IsAll F ds xs
  | .dK ds, a => ∃ xs, H a = some (.dK xs) ∧ IsK F ds xs
  | .dT ds, a => ∃ xs, H a = some (.dT xs) ∧ IsT F ds xs
  | .dN ds, a => ∃ xs, H a = some (NObj P w a xs) ∧ NRel F ds xs ∧ ds.length ≤ sizeLine
  | _, _ => False
section
variable {P : Program} {w : World} {F F' H H' : Hp} {c : Dt} {a : Addr}
theorem Top.mono (e : Same F F') (k : H' a = H a) (h : Top P w F H c a) : Top P w F' H' c a := by
  cases c with
  | lst ds => obtain ⟨xs, h1, h2⟩ := h; exact ⟨xs, k.trans h1, h2.mono e⟩
  | dK ds => obtain ⟨xs, h1, h2⟩ := h; exact ⟨xs, k.trans h1, h2.mono e⟩
  | dT ds => obtain ⟨xs, h1, h2⟩ := h; exact ⟨xs, k.trans h1, h2.mono e⟩
  | dN ds => obtain ⟨xs, h1, h2, h3⟩ := h; exact ⟨xs, k.trans h1, Paired.mapP h2 fun p q ⟨z1, z0, z2, v, z3, z4⟩ => ⟨z1, z0, z2.mono e, v, z3, z4.mono e⟩, h3⟩
  | _ => exact h.elim
theorem Top.there (h : Top P w F H c a) : ∃ o, H a = some o := by
  cases c with
  | lst ds => obtain ⟨xs, h1, h2⟩ := h; exact ⟨_, h1⟩
  | dK ds => obtain ⟨xs, h1, h2⟩ := h; exact ⟨_, h1⟩
  | dT ds => obtain ⟨xs, h1, h2⟩ := h; exact ⟨_, h1⟩
  | dN ds => obtain ⟨xs, h1, h2⟩ := h; exact ⟨_, h1⟩
  | _ => exact h.elim
end

/-- what is known of a name: nothing; shared data; an object of ours that is still changed (some j: the def was handed it, the j-th of these) -/
inductive Slot where
  | un | val (d : Dt) | own (k : Option Nat) (c : Dt)
/-- a def's run: the shared part and the heap at its entry, the addresses that it was handed to change -/
structure Run where
  F0 : Hp
  H0 : Hp
  own : List Addr
  /-- what is kept besides: lists that comprehensions are making -/
  tmp : Hp
/-- where an object of ours comes from: made here, or handed to us -/
def Whose (C : Run) (a : Addr) : Option Nat → Prop
  | none => C.H0 a = none
  | some j => C.own[j]? = some a
def SlotOk (P : Program) (w : World) (C : Run) (F H : Hp) : Slot → Option V → Prop
  | .un, _ => True
  | .val d, ov => ∃ v, ov = some v ∧ Is F d v
  | .own k c, ov => ∃ a, ov = some (.ref a) ∧ F a = none ∧ Top P w F H c a ∧ Whose C a k
structure Rep (P : Program) (w : World) (C : Run) (F : Hp) (ρ : List Slot) (σ : L2.St) (H : Hp) : Prop where
  part : Same F H
  base : Same C.F0 F
  fresh : ∀ a, C.F0 a = none → C.H0 a ≠ none → F a = none
  keep : ∀ a o, C.H0 a = some o → a ∉ C.own → H a = some o
  mine : ∀ a ∈ C.own, C.F0 a = none ∧ C.H0 a ≠ none ∧ H a ≠ none
  len : ρ.length = σ.length
  slots : ∀ (i : Nat) (s : Slot), ρ[i]? = some s → ∃ ov, σ[i]? = some ov ∧ SlotOk P w C F H s ov
  inj : ∀ (i j : Nat) (k : Option Nat) (c : Dt) (k' : Option Nat) (c' : Dt) (a : Addr), ρ[i]? = some (.own k c) → ρ[j]? = some (.own k' c') → σ[i]? = some (some (.ref a)) → σ[j]? = some (some (.ref a)) → i = j
  tmps : ∀ a o, C.tmp a = some o → H a = some o ∧ F a = none ∧ a ∉ C.own
  held : ∀ (i : Nat) (k : Option Nat) (c : Dt) (a : Addr), ρ[i]? = some (.own k c) → σ[i]? = some (some (.ref a)) → C.tmp a = none

section
variable {P : Program} {w : World} {C : Run} {F F' H H' : Hp} {ρ ρ' : List Slot} {σ : L2.St}
theorem Rep.val (r : Rep P w C F ρ σ H) {i : Nat} {d : Dt} (h : ρ[i]? = some (.val d)) : ∃ v, σ[i]? = some (some v) ∧ Is F d v := by
  obtain ⟨ov, h1, v, rfl, h2⟩ := r.slots i _ h
  exact ⟨v, h1, h2⟩
theorem Rep.own (r : Rep P w C F ρ σ H) {i : Nat} {k : Option Nat} {c : Dt} (h : ρ[i]? = some (.own k c)) : ∃ a, σ[i]? = some (some (.ref a)) ∧ F a = none ∧ Top P w F H c a ∧ Whose C a k := by
  obtain ⟨ov, h1, a, rfl, h2⟩ := r.slots i _ h
  exact ⟨a, h1, h2⟩
theorem fresh_F (e : Same F H) {p : Addr} (hp : H p = none) : F p = none := e.free hp
theorem Rep.fresh0 (r : Rep P w C F ρ σ H) {p : Addr} (hp : H p = none) : C.H0 p = none := by
  cases q : C.H0 p with
  | none => rfl
  | some u =>
    by_cases m : p ∈ C.own
    · exact absurd hp (r.mine p m).2.2
    · rw [r.keep p u q m] at hp; cases hp
theorem Rep.freshT (r : Rep P w C F ρ σ H) {p : Addr} (hp : H p = none) : C.tmp p = none := by
  cases q : C.tmp p with
  | none => rfl
  | some u => rw [(r.tmps p u q).1] at hp; cases hp
theorem SlotOk.grow {s : Slot} {ov : Option V} (e : Same F F') (h : SlotOk P w C F H s ov) (k : ∀ a c j, s = .own j c → ov = some (.ref a) → F a = none → F' a = none ∧ H' a = H a) : SlotOk P w C F' H' s ov := by
  cases s with
  | un => trivial
  | val d => obtain ⟨v, h1, h2⟩ := h; exact ⟨v, h1, h2.mono e⟩
  | own j c =>
    obtain ⟨a, h1, h2, h3, h4⟩ := h
    obtain ⟨k1, k2⟩ := k a c j rfl h1 h2
    exact ⟨a, h1, k1, h3.mono e k2, h4⟩
/-- a new object, not shared, not held by a name -/
theorem Rep.alone (r : Rep P w C F ρ σ H) {p : Addr} (o : HO) (hp : H p = none) : Rep P w C F ρ σ (upd H p o) := by
  have ne : ∀ {a : Addr} {u : HO}, H a = some u → a ≠ p := fun h => ne_of_none h hp
  refine ⟨fun b u h => ?_, r.base, r.fresh, fun a u h1 h2 => ?_, fun a h => ?_, r.len, fun i s h => ?_, r.inj, fun a u h => ?_, r.held⟩
  · have q := r.part b u h
    rw [upd_ne (ne q)]; exact q
  · have q := r.keep a u h1 h2
    rw [upd_ne (ne q)]; exact q
  · obtain ⟨h1, h2, h3⟩ := r.mine a h
    refine ⟨h1, h2, ?_⟩
    have : a ≠ p := fun e => h3 (e ▸ hp)
    rw [upd_ne this]; exact h3
  · obtain ⟨ov, h1, h2⟩ := r.slots i s h
    refine ⟨ov, h1, h2.grow (Same.refl F) fun a c j es eo hF => ⟨hF, ?_⟩⟩
    subst es
    obtain ⟨b, e1, _, e3, _⟩ := h2
    rw [eo] at e1; cases e1
    obtain ⟨u, q⟩ := e3.there
    rw [upd_ne (ne q)]
  · obtain ⟨h1, h2, h3⟩ := r.tmps a u h
    rw [upd_ne (ne h1)]
    exact ⟨h1, h2, h3⟩
/-- what no name holds to change it may be shared -/
theorem Rep.share (r : Rep P w C F ρ σ H) {p : Addr} {o : HO} (hp : H p = some o) (h0 : C.H0 p = none) (hF : F p = none) (hn : ∀ (i : Nat) (j : Option Nat) (c : Dt), ρ[i]? = some (.own j c) → σ[i]? ≠ some (some (.ref p))) (hT : C.tmp p = none) : Rep P w C (upd F p o) ρ σ H ∧ Same F (upd F p o) := by
  have e : Same F (upd F p o) := fun b u h => by rw [upd_ne (ne_of_none h hF)]; exact h
  refine ⟨⟨fun b u h => ?_, r.base.trans e, fun a h1 h2 => ?_, r.keep, r.mine, r.len, fun i s h => ?_, r.inj, fun a u h => ?_, r.held⟩, e⟩
  · by_cases hb : b = p
    · subst hb; rw [upd_same] at h; cases h; exact hp
    · rw [upd_ne hb] at h; exact r.part b u h
  · have : a ≠ p := fun q => h2 (q ▸ h0)
    rw [upd_ne this]; exact r.fresh a h1 h2
  · obtain ⟨ov, h1, h2⟩ := r.slots i s h
    refine ⟨ov, h1, h2.grow e fun a c j es eo hFa => ⟨?_, rfl⟩⟩
    subst es
    have : a ≠ p := fun q => hn i j c h (by rw [h1, eo, q])
    rw [upd_ne this]; exact hFa
  · obtain ⟨h1, h2, h3⟩ := r.tmps a u h
    have : a ≠ p := fun q => by rw [q, hT] at h; cases h
    rw [upd_ne this]
    exact ⟨h1, h2, h3⟩
/-- a new object, shared at once -/
theorem Rep.new (r : Rep P w C F ρ σ H) {p : Addr} (o : HO) (hp : H p = none) : Rep P w C (upd F p o) ρ σ (upd H p o) ∧ Same F (upd F p o) := by
  refine (r.alone o hp).share upd_same (r.fresh0 hp) (fresh_F r.part hp) (fun i j c h z => ?_) (r.freshT hp)
  obtain ⟨a, h1, _, h3, _⟩ := r.own h
  rw [z] at h1; cases h1
  obtain ⟨u, q⟩ := h3.there
  rw [hp] at q; cases q
/-- less is known -/
inductive Le : List Slot → List Slot → Prop
  | nil : Le [] []
  | un {s : Slot} {r r' : List Slot} : Le r r' → Le (.un :: r) (s :: r')
  | eq {s s' : Slot} {r r' : List Slot} : s = s' → Le r r' → Le (s :: r) (s' :: r')
theorem Le.refl : ∀ r : List Slot, Le r r
  | [] => .nil
  | _ :: r => .eq rfl (Le.refl r)
theorem Le.length : ∀ {r r' : List Slot}, Le r r' → r.length = r'.length
  | _, _, .nil => rfl
  | _, _, .un t => congrArg (· + 1) (Le.length t)
  | _, _, .eq _ t => congrArg (· + 1) (Le.length t)
theorem Le.at : ∀ {r r' : List Slot} {i : Nat} {s : Slot}, Le r r' → r[i]? = some s → s = .un ∧ (∃ s', r'[i]? = some s') ∨ r'[i]? = some s
  | _, _, _, _, .nil, h => by simp at h
  | _, _, 0, _, .un t, h => by simp at h; exact .inl ⟨h.symm, _, rfl⟩
  | _, _, 0, _, .eq e t, h => by simp at h; exact .inr (by rw [← h, e]; rfl)
  | _, _, i + 1, _, .un t, h => by
    have := Le.at (i := i) t (by simpa using h)
    simpa using this
  | _, _, i + 1, _, .eq _ t, h => by
    have := Le.at (i := i) t (by simpa using h)
    simpa using this
theorem Rep.le (r : Rep P w C F ρ σ H) (l : Le ρ' ρ) : Rep P w C F ρ' σ H := by
  refine ⟨r.part, r.base, r.fresh, r.keep, r.mine, l.length.trans r.len, fun i s h => ?_, fun i j k c k' c' a h1 h2 => ?_, r.tmps, fun i k c a h1 => ?_⟩
  · rcases l.at h with ⟨rfl, s', h'⟩ | h'
    · obtain ⟨ov, h1, _⟩ := r.slots i _ h'
      exact ⟨ov, h1, trivial⟩
    · exact r.slots i _ h'
  · rcases l.at h1 with ⟨e, _⟩ | h1
    · cases e
    rcases l.at h2 with ⟨e, _⟩ | h2
    · cases e
    exact r.inj i j k c k' c' a h1 h2
  · rcases l.at h1 with ⟨e, _⟩ | h1
    · cases e
    exact r.held i k c a h1
/-- a name stored: shared data -/
theorem Rep.setVal (r : Rep P w C F ρ σ H) {i : Nat} {d : Dt} {v : V} (h : Is F d v) : Rep P w C F (ρ.set i (.val d)) (σ.set i (some v)) H := by
  refine ⟨r.part, r.base, r.fresh, r.keep, r.mine, by simpa using r.len, fun j s hj => ?_, fun j j' k c k' c' a h1 h2 h3 h4 => ?_, r.tmps, fun j k c a h1 h2 => ?_⟩
  · by_cases e : i = j
    · subst e
      have hi : i < ρ.length := by
        by_cases q : i < ρ.length
        · exact q
        · rw [List.getElem?_eq_none (by simpa using q)] at hj; cases hj
      rw [List.getElem?_set_self hi] at hj
      cases hj
      exact ⟨_, List.getElem?_set_self (r.len ▸ hi), v, rfl, h⟩
    · rw [List.getElem?_set_ne e] at hj ⊢
      exact r.slots j s hj
  · have ne : ∀ {n : Nat} {k : Option Nat} {c : Dt}, (ρ.set i (.val d))[n]? = some (.own k c) → i ≠ n := fun {n k c} q e => by
      subst e
      rw [List.getElem?_set] at q
      split at q
      · split at q <;> cases q
      · contradiction
    have n1 := ne h1
    have n2 := ne h2
    rw [List.getElem?_set_ne n1] at h1 h3
    rw [List.getElem?_set_ne n2] at h2 h4
    exact r.inj j j' k c k' c' a h1 h2 h3 h4
  · have ne : i ≠ j := fun e => by
      subst e
      rw [List.getElem?_set] at h1
      split at h1
      · split at h1 <;> cases h1
      · contradiction
    rw [List.getElem?_set_ne ne] at h1 h2
    exact r.held j k c a h1 h2
theorem Rep.setUn (r : Rep P w C F ρ σ H) {i : Nat} (ov : Option V) : Rep P w C F (ρ.set i .un) (σ.set i ov) H := by
  refine ⟨r.part, r.base, r.fresh, r.keep, r.mine, by simpa using r.len, fun j s hj => ?_, fun j j' k c k' c' a h1 h2 h3 h4 => ?_, r.tmps, fun j k c a h1 h2 => ?_⟩
  · by_cases e : i = j
    · subst e
      have hi : i < ρ.length := by
        by_cases q : i < ρ.length
        · exact q
        · rw [List.getElem?_eq_none (by simpa using q)] at hj; cases hj
      rw [List.getElem?_set_self hi] at hj
      cases hj
      exact ⟨_, List.getElem?_set_self (r.len ▸ hi), trivial⟩
    · rw [List.getElem?_set_ne e] at hj ⊢
      exact r.slots j s hj
  · have ne : ∀ {n : Nat} {k : Option Nat} {c : Dt}, (ρ.set i .un)[n]? = some (.own k c) → i ≠ n := fun {n k c} q e => by
      subst e
      rw [List.getElem?_set] at q
      split at q
      · split at q <;> cases q
      · contradiction
    have n1 := ne h1
    have n2 := ne h2
    rw [List.getElem?_set_ne n1] at h1 h3
    rw [List.getElem?_set_ne n2] at h2 h4
    exact r.inj j j' k c k' c' a h1 h2 h3 h4
  · have ne : i ≠ j := fun e => by
      subst e
      rw [List.getElem?_set] at h1
      split at h1
      · split at h1 <;> cases h1
      · contradiction
    rw [List.getElem?_set_ne ne] at h1 h2
    exact r.held j k c a h1 h2
/-- a name stored: a new object of ours -/
theorem Rep.setOwn (r : Rep P w C F ρ σ H) {i : Nat} {c : Dt} {p : Addr} (hF : F p = none) (h0 : C.H0 p = none) (ht : Top P w F H c p) (hn : ∀ (i : Nat) (j : Option Nat) (c : Dt), ρ[i]? = some (.own j c) → σ[i]? ≠ some (some (.ref p))) (hT : C.tmp p = none) :
    Rep P w C F (ρ.set i (.own none c)) (σ.set i (some (.ref p))) H := by
  refine ⟨r.part, r.base, r.fresh, r.keep, r.mine, by simpa using r.len, fun j s hj => ?_, fun j j' k c' k' c'' a h1 h2 h3 h4 => ?_, r.tmps, fun j k c' a h1 h2 => ?_⟩
  · by_cases e : i = j
    · subst e
      have hi : i < ρ.length := by
        by_cases q : i < ρ.length
        · exact q
        · rw [List.getElem?_eq_none (by simpa using q)] at hj; cases hj
      rw [List.getElem?_set_self hi] at hj
      cases hj
      exact ⟨_, List.getElem?_set_self (r.len ▸ hi), p, rfl, hF, ht, h0⟩
    · rw [List.getElem?_set_ne e] at hj ⊢
      exact r.slots j s hj
  · by_cases e1 : i = j
    · by_cases e2 : i = j'
      · exact e1.symm.trans e2
      · rw [List.getElem?_set_ne e2] at h2 h4
        subst e1
        have hi : i < σ.length := by
          by_cases q : i < σ.length
          · exact q
          · rw [List.getElem?_eq_none (by simpa using q)] at h3; cases h3
        rw [List.getElem?_set_self hi] at h3
        cases h3
        exact absurd h4 (hn _ _ _ h2)
    · rw [List.getElem?_set_ne e1] at h1 h3
      by_cases e2 : i = j'
      · subst e2
        have hi : i < σ.length := by
          by_cases q : i < σ.length
          · exact q
          · rw [List.getElem?_eq_none (by simpa using q)] at h4; cases h4
        rw [List.getElem?_set_self hi] at h4
        cases h4
        exact absurd h3 (hn _ _ _ h1)
      · rw [List.getElem?_set_ne e2] at h2 h4
        exact r.inj j j' k c' k' c'' a h1 h2 h3 h4
  · by_cases e1 : i = j
    · subst e1
      have hi : i < σ.length := by
        by_cases q : i < σ.length
        · exact q
        · rw [List.getElem?_eq_none (by simpa using q)] at h2; cases h2
      rw [List.getElem?_set_self hi] at h2
      cases h2
      exact hT
    · rw [List.getElem?_set_ne e1] at h1 h2
      exact r.held j k c' a h1 h2
/-- the object of a name written -/
theorem Rep.write (r : Rep P w C F ρ σ H) {i : Nat} {k : Option Nat} {c c' : Dt} {a : Addr} {o : HO} (h : ρ[i]? = some (.own k c)) (ha : σ[i]? = some (some (.ref a))) (ht : Top P w F (upd H a o) c' a) :
    Rep P w C F (ρ.set i (.own k c')) σ (upd H a o) := by
  obtain ⟨a', e1, hF, hT, hk⟩ := r.own h
  rw [ha] at e1; cases e1
  have hi : i < ρ.length := by
    by_cases q : i < ρ.length
    · exact q
    · rw [List.getElem?_eq_none (by simpa using q)] at h; cases h
  have back : ∀ {n : Nat} {k1 : Option Nat} {c1 : Dt}, (ρ.set i (.own k c'))[n]? = some (.own k1 c1) → ∃ k3 c3, ρ[n]? = some (.own k3 c3) := fun {n k1 c1} q => by
    by_cases e : i = n
    · subst e; exact ⟨_, _, h⟩
    · rw [List.getElem?_set_ne e] at q; exact ⟨_, _, q⟩
  refine ⟨fun b u hb => ?_, r.base, r.fresh, fun b u h1 h2 => ?_, fun b hb => ?_, by simpa using r.len, fun j s hj => ?_, fun j j' k1 c1 k2 c2 b h1 h2 h3 h4 => ?_, fun b u hb => ?_, fun j k1 c1 b h1 h2 => ?_⟩
  · rw [upd_ne (ne_of_none hb hF)]; exact r.part b u hb
  · have : b ≠ a := fun q => by
      subst q
      cases k with
      | none => rw [show C.H0 b = none from hk] at h1; cases h1
      | some j => exact h2 (List.mem_of_getElem? (show C.own[j]? = some b from hk))
    rw [upd_ne this]; exact r.keep b u h1 h2
  · obtain ⟨m1, m2, m3⟩ := r.mine b hb
    refine ⟨m1, m2, ?_⟩
    by_cases e : b = a
    · subst e; rw [upd_same]; simp
    · rw [upd_ne e]; exact m3
  · by_cases e : i = j
    · subst e
      rw [List.getElem?_set_self hi] at hj
      cases hj
      exact ⟨_, ha, a, rfl, hF, ht, hk⟩
    · rw [List.getElem?_set_ne e] at hj
      obtain ⟨ov, h1, h2⟩ := r.slots j s hj
      refine ⟨ov, h1, h2.grow (Same.refl F) fun b c2 k2 es eo hFb => ⟨hFb, ?_⟩⟩
      subst es
      have : b ≠ a := fun q => e (r.inj i j k c k2 c2 a h hj ha (by rw [h1, eo, q]))
      rw [upd_ne this]
  · obtain ⟨_, _, b1⟩ := back h1
    obtain ⟨_, _, b2⟩ := back h2
    exact r.inj j j' _ _ _ _ b b1 b2 h3 h4
  · obtain ⟨m1, m2, m3⟩ := r.tmps b u hb
    have : b ≠ a := fun q => by
      rw [q, r.held i k c a h ha] at hb; cases hb
    rw [upd_ne this]
    exact ⟨m1, m2, m3⟩
  · obtain ⟨_, _, b1⟩ := back h1
    exact r.held j _ _ b b1 h2
end
end DL

set_option Elab.async false
set_option linter.all false
set_option maxRecDepth 100000
set_option autoImplicit false
/-! D2: the judgements, expressions. -/
namespace DL
open PySem PySem.Spec L2

/-! ### runs -/
structure RE (X : Cx) (e : Expr) (σ : L2.St) (H : Hp) (Q : VK) : Prop where
  run : ∀ (pins : List (Addr × Obj)) (s : Shared), Inv X pins σ H s → wpAny (model X.prog X.w) X.A (eval e X.env) (EP X pins σ Q) X.xe s
structure RT (X : Cx) (e : Expr) (σ : L2.St) (H : Hp) (Q : Bool → Hp → Prop) : Prop where
  run : ∀ (pins : List (Addr × Obj)) (s : Shared), Inv X pins σ H s → wpAny (model X.prog X.w) X.A (isTrue e X.env (eval e X.env)) (TP X pins σ Q) X.xe s
structure RW (X : Cx) (e : Expr) (σ : L2.St) (H : Hp) (Q : Bool → Hp → Prop) : Prop where
  run : ∀ (whole : Sem Value) (pins : List (Addr × Obj)) (s : Shared), Inv X pins σ H s → wpAny (model X.prog X.w) X.A (isTrue e X.env whole) (TP X pins σ Q) X.xe s
structure RA (X : Cx) (es : List Expr) (σ : L2.St) (H : Hp) (Q : List V → Hp → Prop) : Prop where
  run : ∀ (pos : Pos) (pins : List (Addr × Obj)) (s : Shared), Inv X pins σ H s → wpAny (model X.prog X.w) X.A (spliced (backTo pos (starEach es X.env))) (AP X pins σ Q) X.xe s
section
variable {X : Cx} {e : Expr} {es : List Expr} {σ : L2.St} {H : Hp}
theorem re_pe : PE X e (RE X e) := ⟨fun pins s σ H Q I h => h.run pins s I⟩
theorem rt_pt : PT X e (RT X e) := ⟨fun pins s σ H Q I h => h.run pins s I⟩
theorem rw_pw : PW X e (RW X e) := ⟨fun wh pins s σ H Q I h => h.run wh pins s I⟩
theorem ra_pa : PA X es (RA X es) := ⟨fun pos pins s σ H Q I h => h.run pos pins s I⟩
theorem re_of {t : TE} {Q : VK} (h : PE X e t) (q : t σ H Q) : RE X e σ H Q := ⟨fun pins s I => h.run pins s σ H Q I q⟩
theorem rt_of {t : TT} {Q : Bool → Hp → Prop} (h : PT X e t) (q : t σ H Q) : RT X e σ H Q := ⟨fun pins s I => h.run pins s σ H Q I q⟩
theorem rw_of {t : TT} {Q : Bool → Hp → Prop} (h : PW X e t) (q : t σ H Q) : RW X e σ H Q := ⟨fun wh pins s I => h.run wh pins s σ H Q I q⟩
theorem ra_of {t : TA} {Q : List V → Hp → Prop} (h : PA X es t) (q : t σ H Q) : RA X es σ H Q := ⟨fun pos pins s I => h.run pos pins s σ H Q I q⟩
end

/-! ### the judgements -/
abbrev Env := List Slot
abbrev DP := Dt → Env → Prop
/-- e gives some data d, the names behind it hold ρ', of which R d ρ' -/
def JE (X : Cx) (e : Expr) (ρ : Env) (R : DP) : Prop := ∀ (C : Run) (F : Hp) (σ : L2.St) (H : Hp) (Q : VK), Rep X.prog X.w C F ρ σ H →
  (∀ d ρ' v F' H', R d ρ' → Same F F' → Rep X.prog X.w C F' ρ' σ H' → Is F' d v → Q v H') → RE X e σ H Q
def JT (X : Cx) (e : Expr) (ρ : Env) (R : Bool → Env → Prop) : Prop := ∀ (C : Run) (F : Hp) (σ : L2.St) (H : Hp) (Q : Bool → Hp → Prop), Rep X.prog X.w C F ρ σ H →
  (∀ b ρ' F' H', R b ρ' → Same F F' → Rep X.prog X.w C F' ρ' σ H' → Q b H') → RT X e σ H Q
/-- and, or as a test -/
def JW (X : Cx) (e : Expr) (ρ : Env) (R : Bool → Env → Prop) : Prop := ∀ (C : Run) (F : Hp) (σ : L2.St) (H : Hp) (Q : Bool → Hp → Prop), Rep X.prog X.w C F ρ σ H →
  (∀ b ρ' F' H', R b ρ' → Same F F' → Rep X.prog X.w C F' ρ' σ H' → Q b H') → RW X e σ H Q
/-- expressions from the left, all of them data -/
def JL (X : Cx) (es : List Expr) (ρ : Env) (R : List Dt → Env → Prop) : Prop := ∀ (C : Run) (F : Hp) (σ : L2.St) (H : Hp) (Q : List V → Hp → Prop), Rep X.prog X.w C F ρ σ H →
  (∀ ds ρ' vs F' H', R ds ρ' → Same F F' → Rep X.prog X.w C F' ρ' σ H' → IsAll F' ds vs → Q vs H') → RA X es σ H Q
/-- a new object of ours -/
def JN (X : Cx) (e : Expr) (ρ : Env) (R : DP) : Prop := ∀ (C : Run) (F : Hp) (σ : L2.St) (H : Hp) (Q : VK), Rep X.prog X.w C F ρ σ H →
  (∀ c ρ' p F' H', R c ρ' → Same F F' → Rep X.prog X.w C F' ρ' σ H' → F' p = none → C.H0 p = none → C.tmp p = none → Top X.prog X.w F' H' c p →
    (∀ (i : Nat) (j : Option Nat) (c : Dt), ρ'[i]? = some (.own j c) → σ[i]? ≠ some (some (.ref p))) → Q (.ref p) H') → RE X e σ H Q
theorem JE.imp {X : Cx} {e : Expr} {ρ : Env} {R R' : DP} (h : JE X e ρ R) (k : ∀ d ρ', R d ρ' → R' d ρ') : JE X e ρ R' := fun C F σ H Q r q => h C F σ H Q r fun d ρ' v F' H' z => q d ρ' v F' H' (k d ρ' z)
theorem JT.imp {X : Cx} {e : Expr} {ρ : Env} {R R' : Bool → Env → Prop} (h : JT X e ρ R) (k : ∀ d ρ', R d ρ' → R' d ρ') : JT X e ρ R' := fun C F σ H Q r q => h C F σ H Q r fun d ρ' F' H' z => q d ρ' F' H' (k d ρ' z)
theorem JL.imp {X : Cx} {es : List Expr} {ρ : Env} {R R' : List Dt → Env → Prop} (h : JL X es ρ R) (k : ∀ d ρ', R d ρ' → R' d ρ') : JL X es ρ R' := fun C F σ H Q r q => h C F σ H Q r fun d ρ' v F' H' z => q d ρ' v F' H' (k d ρ' z)

section
variable {X : Cx} {ρ : Env} {R : DP} {pos : Pos} {x : Str} {a b e : Expr} {es : List Expr}
/-! ### names, constants -/
theorem j_nm (i : Nat) {d : Dt} (h : ρ[i]? = some (.val d)) (q : R d ρ) (hN : X.N[i]? = some x := by rfl) (hv : Vis X.env.scope x := by first | exact Or.inl rfl | exact Or.inr (Or.inl rfl) | exact Or.inr (Or.inr rfl))
    (hd : (x == ("__debug__" : Str)) = false := by decide) (hcd : (x == ("__classdict__" : Str)) = false := by decide) : JE X (.Name x pos) ρ R := fun C F σ H Q r k => by
  obtain ⟨v, h1, h2⟩ := r.val h
  exact re_of (pe_var hN hv hd hcd) ⟨v, h1, k d ρ v F H q (Same.refl F) r h2⟩
theorem j_int {i : Int} {j : Nat} (q : R (.int i) ρ) : JE X (.Constant (.int i) j pos) ρ R := fun C F σ H Q r k => re_of pe_int (k _ _ _ F H q (Same.refl F) r (.int i))
theorem j_bl {i : Bool} {j : Nat} (q : R (.bl i) ρ) : JE X (.Constant (.bool i) j pos) ρ R := fun C F σ H Q r k => re_of pe_bl (k _ _ _ F H q (Same.refl F) r (.bl i))
theorem j_non {j : Nat} (q : R .non ρ) : JE X (.Constant .none j pos) ρ R := fun C F σ H Q r k => re_of pe_non (k _ _ _ F H q (Same.refl F) r .non)
theorem j_str {i : Str} {j : Nat} (q : R (.str i) ρ) : JE X (.Constant (.str i) j pos) ρ R := fun C F σ H Q r k => re_of pe_str (k _ _ _ F H q (Same.refl F) r (.str i))
/-- a constant of the module -/
theorem j_globI {i : Int} {t : Tok} (hm : X.mg x = some (.int i t)) (q : R (.int i) ρ) (hg : Gl X x := by rfl) (hd : (x == ("__debug__" : Str)) = false := by decide) : JE X (.Name x pos) ρ R := fun C F σ H Q r k => re_of (pe_glob (v := .int i) hg hm ⟨_, rfl⟩ hd) (k _ _ _ F H q (Same.refl F) r (.int i))
theorem j_globS {i : Str} {t : Tok} (hm : X.mg x = some (.str i t)) (q : R (.str i) ρ) (hg : Gl X x := by rfl) (hd : (x == ("__debug__" : Str)) = false := by decide) : JE X (.Name x pos) ρ R := fun C F σ H Q r k => re_of (pe_glob (v := .str i) hg hm ⟨_, rfl⟩ hd) (k _ _ _ F H q (Same.refl F) r (.str i))

/-! ### operators: by values -/
/-- op on these data gives some data of which R -/
def BD (X : Cx) (op : Operator) (d1 d2 : Dt) (R : Dt → Prop) : Prop := ∀ (C : Run) (F : Hp) (ρ : Env) (σ : L2.St) (H : Hp) (v1 v2 : V) (Q : VK), Rep X.prog X.w C F ρ σ H → Is F d1 v1 → Is F d2 v2 →
  (∀ d v F' H', R d → Same F F' → Rep X.prog X.w C F' ρ σ H' → Is F' d v → Q v H') → ∃ r, OpR X (binaryOp op) r ∧ r v1 v2 H Q
theorem op_any {f : Value → Value → Sem Value} : OpR X f (fun x y H Q => ∃ r, OpR X f r ∧ r x y H Q) := fun pins s σ H x y v u Q I rx ry ⟨r, h, q⟩ => h pins s σ H x y v u Q I rx ry q
theorem j_bin {op : Operator} (h : JE X a ρ fun d1 ρ1 => JE X b ρ1 fun d2 ρ2 => BD X op d1 d2 fun d => R d ρ2) : JE X (.BinOp a op b pos) ρ R := fun C F σ H Q r k => by
  refine re_of (pe_op op_any re_pe re_pe) ?_
  refine h C F σ H _ r fun d1 ρ1 v1 F1 H1 h1 e1 r1 i1 => ?_
  refine h1 C F1 σ H1 _ r1 fun d2 ρ2 v2 F2 H2 h2 e2 r2 i2 => ?_
  exact h2 C F2 ρ2 σ H2 v1 v2 Q r2 (i1.mono e2) i2 fun d v F3 H3 q e3 r3 i3 => k d ρ2 v F3 H3 q (e1.trans (e2.trans e3)) r3 i3
theorem bd_add {i j : Int} {R : Dt → Prop} (q : R (.int (i + j))) : BD X .Add (.int i) (.int j) R := fun C F ρ σ H v1 v2 Q r h1 h2 k => by
  cases h1; cases h2
  exact ⟨_, op_add, _, _, rfl, rfl, k _ _ F H q (Same.refl F) r (.int _)⟩
theorem bd_sub {i j : Int} {R : Dt → Prop} (q : R (.int (i - j))) : BD X .Sub (.int i) (.int j) R := fun C F ρ σ H v1 v2 Q r h1 h2 k => by
  cases h1; cases h2
  exact ⟨_, op_sub, _, _, rfl, rfl, k _ _ F H q (Same.refl F) r (.int _)⟩
theorem bd_mul {i j : Int} {R : Dt → Prop} (hc : CMul i j) (q : R (.int (i * j))) : BD X .Mult (.int i) (.int j) R := fun C F ρ σ H v1 v2 Q r h1 h2 k => by
  cases h1; cases h2
  exact ⟨_, op_mul, _, _, rfl, rfl, hc, k _ _ F H q (Same.refl F) r (.int _)⟩
theorem bd_fdiv {i j : Int} {R : Dt → Prop} (hc : CDiv i j) (q : R (.int (i / j))) : BD X .FloorDiv (.int i) (.int j) R := fun C F ρ σ H v1 v2 Q r h1 h2 k => by
  cases h1; cases h2
  exact ⟨_, op_fdiv, _, _, rfl, rfl, hc, k _ _ F H q (Same.refl F) r (.int _)⟩
theorem bd_mod {i j : Int} {R : Dt → Prop} (hc : 0 < j) (q : R (.int (i % j))) : BD X .Mod (.int i) (.int j) R := fun C F ρ σ H v1 v2 Q r h1 h2 k => by
  cases h1; cases h2
  exact ⟨_, op_mod, _, _, rfl, rfl, hc, k _ _ F H q (Same.refl F) r (.int _)⟩
theorem bd_addS {i j : Str} {R : Dt → Prop} (hz : i.length + j.length ≤ sizeLine) (q : R (.str (i ++ j))) : BD X .Add (.str i) (.str j) R := fun C F ρ σ H v1 v2 Q r h1 h2 k => by
  cases h1; cases h2
  exact ⟨_, op_add_str, _, _, rfl, rfl, hz, k _ _ F H q (Same.refl F) r (.str _)⟩
theorem op_mulS : OpR X (binaryOp .Mult) (fun x y H Q => ∃ z n, x = .str z ∧ y = .int n ∧ MulOk z n ∧ Q (.str (Txt.mul z n)) H) := by
  intro pins s σ H x y v u Q I rx ry h
  obtain ⟨z, n, rfl, rfl, ok, q⟩ := h
  obtain ⟨t, rfl⟩ := rx
  obtain ⟨t', rfl⟩ := ry
  exact SB.mul ok fun t' k => ⟨.str (Txt.mul z n), H, I.tok k, ⟨_, rfl⟩, q⟩
theorem bd_mulS {z : Str} {n : Int} {R : Dt → Prop} (ok : MulOk z n) (q : R (.str (Txt.mul z n))) : BD X .Mult (.str z) (.int n) R := fun C F ρ σ H v1 v2 Q r h1 h2 k => by
  cases h1; cases h2
  exact ⟨_, op_mulS, _, _, rfl, rfl, ok, k _ _ F H q (Same.refl F) r (.str _)⟩
end
end DL

set_option Elab.async false
set_option linter.all false
set_option maxRecDepth 100000
set_option autoImplicit false
/-! D3: containers that are read, subscripts, comparisons, tests, displays, slices. -/
namespace DL
open PySem PySem.Spec L2
open PyProof.Rows (subscriptTail)

/-! ### what is read: shared data, or the object of a name -/
inductive AV where
  | dat (d : Dt) | nam (i : Nat)
def AV.get (ρ : Env) : AV → Option Dt
  | .dat d => some d
  | .nam i => match ρ[i]? with
    | some (.own _ c) => some c
    | _ => none
def AvIs (σ : L2.St) (F : Hp) : AV → V → Prop
  | .dat d, v => Is F d v
  | .nam i, v => σ[i]? = some (some v)
theorem AvIs.mono {σ : L2.St} {F F' : Hp} (e : Same F F') {a : AV} {v : V} (h : AvIs σ F a v) : AvIs σ F' a v := by
  cases a with
  | dat d => exact Is.mono e h
  | nam i => exact h
/-- the value v stands for d to be read: shared, or ours -/
def TV (P : Program) (w : World) (F H : Hp) (d : Dt) (v : V) : Prop := Is F d v ∨ ∃ a, v = .ref a ∧ Top P w F H d a
theorem AvIs.tv {P : Program} {w : World} {C : Run} {F H : Hp} {ρ : Env} {σ : L2.St} (r : Rep P w C F ρ σ H) {a : AV} {v : V} {d : Dt} (h : AvIs σ F a v) (g : a.get ρ = some d) : TV P w F H d v := by
  cases a with
  | dat d' => cases g; exact .inl h
  | nam i =>
    simp only [AV.get] at g
    split at g
    · rename_i k c e
      cases g
      obtain ⟨b, h1, _, h3, _⟩ := r.own e
      have h' : σ[i]? = some (some v) := h
      rw [h1] at h'; cases h'
      exact .inr ⟨b, rfl, h3⟩
    · cases g
section
variable {P : Program} {w : World} {F H : Hp} {v : V}
theorem TV.lst {ds : List Dt} (p : Same F H) (h : TV P w F H (.lst ds) v) : ∃ a xs, v = .ref a ∧ H a = some (.lst xs) ∧ IsAll F ds xs := by
  rcases h with h | ⟨a, rfl, xs, h1, h2⟩
  · cases h with
    | lst h1 h2 => exact ⟨_, _, rfl, p _ _ h1, h2⟩
  · exact ⟨a, xs, rfl, h1, h2⟩
theorem TV.dK {ds : List (Key × Dt)} (p : Same F H) (h : TV P w F H (.dK ds) v) : ∃ a xs, v = .ref a ∧ H a = some (.dK xs) ∧ IsK F ds xs := by
  rcases h with h | ⟨a, rfl, xs, h1, h2⟩
  · cases h with
    | dK h1 h2 => exact ⟨_, _, rfl, p _ _ h1, h2⟩
  · exact ⟨a, xs, rfl, h1, h2⟩
theorem TV.dT {ds : List (List Key × Dt)} (p : Same F H) (h : TV P w F H (.dT ds) v) : ∃ a xs, v = .ref a ∧ H a = some (.dT xs) ∧ IsT F ds xs := by
  rcases h with h | ⟨a, rfl, xs, h1, h2⟩
  · cases h with
    | dT h1 h2 => exact ⟨_, _, rfl, p _ _ h1, h2⟩
  · exact ⟨a, xs, rfl, h1, h2⟩
theorem TV.tup {ds : List Dt} (p : Same F H) (h : TV P w F H (.tup ds) v) : ∃ a xs, v = .ref a ∧ F a = some (.tup xs) ∧ H a = some (.tup xs) ∧ IsAll F ds xs := by
  rcases h with h | ⟨a, rfl, h⟩
  · cases h with
    | tup h1 h2 => exact ⟨_, _, rfl, h1, p _ _ h1, h2⟩
  · exact h.elim
theorem TV.frz {ds : List Dt} (p : Same F H) (h : TV P w F H (.frz ds) v) : ∃ a o xs, v = .ref a ∧ H a = some (.frz o (.lst xs)) ∧ IsAll F ds xs := by
  rcases h with h | ⟨a, rfl, h⟩
  · cases h with
    | frz h1 h2 => exact ⟨_, _, _, rfl, p _ _ h1, h2⟩
  · exact h.elim
theorem TV.dN {ds : List (NestedKey × Dt)} (h : TV P w F H (.dN ds) v) : ∃ a xs, v = .ref a ∧ H a = some (NObj P w a xs) ∧ NRel F ds xs ∧ ds.length ≤ sizeLine := by
  rcases h with h | ⟨a, rfl, h⟩
  · cases h
  · obtain ⟨xs, h1, h2, h3⟩ := h
    exact ⟨a, xs, rfl, h1, h2, h3⟩
end
def JV (X : Cx) (e : Expr) (ρ : Env) (R : AV → Env → Prop) : Prop := ∀ (C : Run) (F : Hp) (σ : L2.St) (H : Hp) (Q : VK), Rep X.prog X.w C F ρ σ H →
  (∀ a ρ' v F' H', R a ρ' → Same F F' → Rep X.prog X.w C F' ρ' σ H' → AvIs σ F' a v → Q v H') → RE X e σ H Q

/-! ### dicts as lists of pairs -/
def valD {κ : Type} [DecidableEq κ] (kvs : List (κ × Dt)) (k : κ) : Option Dt := (kvs.find? fun kv => decide (kv.1 = k)).map (·.2)
def putD {κ : Type} [DecidableEq κ] (kvs : List (κ × Dt)) (k : κ) (d : Dt) : List (κ × Dt) := if (kvs.any fun kv => decide (kv.1 = k)) = true then kvs.map fun kv => if kv.1 = k then (kv.1, d) else kv else kvs ++ [(k, d)]
theorem IsK.val {F : Hp} (k : Key) : ∀ {ds : List (Key × Dt)} {xs : List (Key × V)}, IsK F ds xs → (∀ d, valD ds k = some d → ∃ v, valV xs k = some v ∧ Is F d v) ∧ (valD ds k = none → valV xs k = none)
  | _, _, .nil => ⟨fun d h => by simp [valD] at h, fun _ => rfl⟩
  | _, _, @IsK.cons _ k' d' v' ds vs h t => by
    obtain ⟨i1, i2⟩ := IsK.val k t
    by_cases e : k' = k
    · have q1 : valD ((k', d') :: ds) k = some d' := by simp [valD, List.find?_cons, e]
      have q2 : valV ((k', v') :: vs) k = some v' := valV_pos e
      rw [q1, q2]
      exact ⟨fun d z => ⟨v', rfl, by cases z; exact h⟩, fun z => nomatch z⟩
    · have q1 : valD ((k', d') :: ds) k = valD ds k := by simp [valD, List.find?_cons, e]
      have q2 : valV ((k', v') :: vs) k = valV vs k := valV_neg e
      rw [q1, q2]
      exact ⟨i1, i2⟩
theorem IsT.val {F : Hp} (k : List Key) : ∀ {ds : List (List Key × Dt)} {xs : List (List Key × V)}, IsT F ds xs → (∀ d, valD ds k = some d → ∃ v, valV xs k = some v ∧ Is F d v) ∧ (valD ds k = none → valV xs k = none)
  | _, _, .nil => ⟨fun d h => by simp [valD] at h, fun _ => rfl⟩
  | _, _, @IsT.cons _ k' d' v' ds vs h t => by
    obtain ⟨i1, i2⟩ := IsT.val k t
    by_cases e : k' = k
    · have q1 : valD ((k', d') :: ds) k = some d' := by simp [valD, List.find?_cons, e]
      have q2 : valV ((k', v') :: vs) k = some v' := valV_pos e
      rw [q1, q2]
      exact ⟨fun d z => ⟨v', rfl, by cases z; exact h⟩, fun z => nomatch z⟩
    · have q1 : valD ((k', d') :: ds) k = valD ds k := by simp [valD, List.find?_cons, e]
      have q2 : valV ((k', v') :: vs) k = valV vs k := valV_neg e
      rw [q1, q2]
      exact ⟨i1, i2⟩
theorem isK_isSome {F : Hp} (k : Key) {ds : List (Key × Dt)} {xs : List (Key × V)} (h : IsK F ds xs) : (valV xs k).isSome = (valD ds k).isSome := by
  obtain ⟨h1, h2⟩ := h.val k
  cases q : valD ds k with
  | none => rw [h2 q]; rfl
  | some d => obtain ⟨v, e, _⟩ := h1 d q; rw [e]; rfl
theorem isT_isSome {F : Hp} (k : List Key) {ds : List (List Key × Dt)} {xs : List (List Key × V)} (h : IsT F ds xs) : (valV xs k).isSome = (valD ds k).isSome := by
  obtain ⟨h1, h2⟩ := h.val k
  cases q : valD ds k with
  | none => rw [h2 q]; rfl
  | some d => obtain ⟨v, e, _⟩ := h1 d q; rw [e]; rfl
theorem IsK.length {F : Hp} : ∀ {ds : List (Key × Dt)} {xs : List (Key × V)}, IsK F ds xs → ds.length = xs.length
  | _, _, .nil => rfl
  | _, _, .cons _ t => congrArg (· + 1) t.length
theorem IsT.length {F : Hp} : ∀ {ds : List (List Key × Dt)} {xs : List (List Key × V)}, IsT F ds xs → ds.length = xs.length
  | _, _, .nil => rfl
  | _, _, .cons _ t => congrArg (· + 1) t.length
theorem IsK.snoc {F : Hp} {k : Key} {d : Dt} {v : V} (h : Is F d v) : ∀ {ds : List (Key × Dt)} {xs : List (Key × V)}, IsK F ds xs → IsK F (ds ++ [(k, d)]) (xs ++ [(k, v)])
  | _, _, .nil => .cons h .nil
  | _, _, .cons q t => .cons q (IsK.snoc h t)
theorem IsT.snoc {F : Hp} {k : List Key} {d : Dt} {v : V} (h : Is F d v) : ∀ {ds : List (List Key × Dt)} {xs : List (List Key × V)}, IsT F ds xs → IsT F (ds ++ [(k, d)]) (xs ++ [(k, v)])
  | _, _, .nil => .cons h .nil
  | _, _, .cons q t => .cons q (IsT.snoc h t)
theorem IsK.repl {F : Hp} {k : Key} {d : Dt} {v : V} (h : Is F d v) : ∀ {ds : List (Key × Dt)} {xs : List (Key × V)}, IsK F ds xs → IsK F (ds.map fun kv => if kv.1 = k then (kv.1, d) else kv) (xs.map fun kv => if kv.1 = k then (kv.1, v) else kv)
  | _, _, .nil => .nil
  | _, _, @IsK.cons _ k' d' v' ds vs q t => by
    rw [List.map_cons, List.map_cons]
    by_cases e : k' = k
    · rw [if_pos e, if_pos e]; exact .cons h (IsK.repl h t)
    · rw [if_neg e, if_neg e]; exact .cons q (IsK.repl h t)
theorem IsT.repl {F : Hp} {k : List Key} {d : Dt} {v : V} (h : Is F d v) : ∀ {ds : List (List Key × Dt)} {xs : List (List Key × V)}, IsT F ds xs → IsT F (ds.map fun kv => if kv.1 = k then (kv.1, d) else kv) (xs.map fun kv => if kv.1 = k then (kv.1, v) else kv)
  | _, _, .nil => .nil
  | _, _, @IsT.cons _ k' d' v' ds vs q t => by
    rw [List.map_cons, List.map_cons]
    by_cases e : k' = k
    · rw [if_pos e, if_pos e]; exact .cons h (IsT.repl h t)
    · rw [if_neg e, if_neg e]; exact .cons q (IsT.repl h t)
theorem valD_any {κ : Type} [DecidableEq κ] (k : κ) : ∀ ds : List (κ × Dt), (ds.any fun kv => decide (kv.1 = k)) = (valD ds k).isSome
  | [] => rfl
  | (k', d') :: r => by
    by_cases e : k' = k
    · simp [valD, List.find?_cons, e]
    · have ih := valD_any k r
      simp only [valD, List.any_cons, List.find?_cons, e, decide_false, Bool.false_or] at ih ⊢
      exact ih
theorem IsK.put {F : Hp} {k : Key} {d : Dt} {v : V} (h : Is F d v) {ds : List (Key × Dt)} {xs : List (Key × V)} (q : IsK F ds xs) : IsK F (putD ds k d) (putK xs k v) := by
  have e : (ds.any fun kv => decide (kv.1 = k)) = (xs.any fun kv => decide (kv.1 = k)) := by rw [valD_any, valV_any, isK_isSome k q]
  unfold putD putK
  rw [e]
  split
  · exact q.repl h
  · exact q.snoc h
theorem IsT.put {F : Hp} {k : List Key} {d : Dt} {v : V} (h : Is F d v) {ds : List (List Key × Dt)} {xs : List (List Key × V)} (q : IsT F ds xs) : IsT F (putD ds k d) (putK xs k v) := by
  have e : (ds.any fun kv => decide (kv.1 = k)) = (xs.any fun kv => decide (kv.1 = k)) := by rw [valD_any, valV_any, isT_isSome k q]
  unfold putD putK
  rw [e]
  split
  · exact q.repl h
  · exact q.snoc h
/-- a key as data -/
def keyD : Key → Dt
  | .inl i => .int i
  | .inr x => .str x
theorem isAll_keys {F : Hp} : ∀ {ks : List Key} {vs : List V}, IsAll F (ks.map keyD) vs → vs = ks.map kV
  | [], _, .nil => rfl
  | .inl i :: ks, _, .cons (.int _) t => by rw [isAll_keys t]; rfl
  | .inr x :: ks, _, .cons (.str _) t => by rw [isAll_keys t]; rfl
theorem IsAll.atI {F : Hp} {ds : List Dt} {vs : List V} {i : Int} {d : Dt} (h : IsAll F ds vs) (e : atI ds i = some d) : ∃ v, L2.atI vs i = some v ∧ Is F d v := by
  unfold L2.atI at e ⊢
  rw [h.length] at e
  cases q : ixN vs.length i with
  | none => rw [q] at e; cases e
  | some j => rw [q] at e; exact h.get e

section
variable {X : Cx} {ρ : Env} {R : DP} {pos : Pos} {x : Str} {a b e : Expr} {es : List Expr}
theorem v_val {R : AV → Env → Prop} (h : JE X e ρ fun d ρ' => R (.dat d) ρ') : JV X e ρ R := fun C F σ H Q r k => h C F σ H Q r fun d ρ' v F' H' q e r' i => k (.dat d) ρ' v F' H' q e r' i
theorem v_own (i : Nat) {R : AV → Env → Prop} {k : Option Nat} {c : Dt} (h : ρ[i]? = some (.own k c)) (q : R (.nam i) ρ) (hN : X.N[i]? = some x := by rfl) (hv : Vis X.env.scope x := by first | exact Or.inl rfl | exact Or.inr (Or.inl rfl) | exact Or.inr (Or.inr rfl))
    (hd : (x == ("__debug__" : Str)) = false := by decide) (hcd : (x == ("__classdict__" : Str)) = false := by decide) : JV X (.Name x pos) ρ R := fun C F σ H Q r kk => by
  obtain ⟨a, h1, _⟩ := r.own h
  exact re_of (pe_var hN hv hd hcd) ⟨.ref a, h1, kk (.nam i) ρ (.ref a) F H q (Same.refl F) r h1⟩

/-! ### subscripts -/
def XD (X : Cx) (d1 d2 : Dt) (R : Dt → Prop) : Prop := ∀ (C : Run) (F : Hp) (ρ : Env) (σ : L2.St) (H : Hp) (v1 v2 : V) (Q : VK), Rep X.prog X.w C F ρ σ H → TV X.prog X.w F H d1 v1 → Is F d2 v2 →
  (∀ d v, R d → Is F d v → Q v H) → ∃ r, IxR X r ∧ r v1 v2 H Q
theorem ix_any : IxR X (fun x y H Q => ∃ r, IxR X r ∧ r x y H Q) := fun va sl pins s σ H x y v u Q I rx ry ⟨r, h, q⟩ hs => h va sl pins s σ H x y v u Q I rx ry q hs
theorem j_ix (h : JV X a ρ fun av ρ1 => JE X b ρ1 fun d2 ρ2 => ∃ d1, av.get ρ2 = some d1 ∧ XD X d1 d2 fun d => R d ρ2) (hs : PlainIx b := by exact fun _ _ => rfl) : JE X (.Subscript a b pos) ρ R := fun C F σ H Q r k => by
  refine re_of (pe_ix ix_any re_pe re_pe hs) ?_
  refine h C F σ H _ r fun av ρ1 v1 F1 H1 h1 e1 r1 i1 => ?_
  refine h1 C F1 σ H1 _ r1 fun d2 ρ2 v2 F2 H2 h2 e2 r2 i2 => ?_
  obtain ⟨d1, g, h2⟩ := h2
  exact h2 C F2 ρ2 σ H2 v1 v2 Q r2 ((i1.mono e2).tv r2 g) i2 fun d v q i3 => k d ρ2 v F2 H2 q (e1.trans e2) r2 i3
theorem xd_lst {ds : List Dt} {i : Int} {d : Dt} {R : Dt → Prop} (h : atI ds i = some d) (q : R d) : XD X (.lst ds) (.int i) R := fun C F ρ σ H v1 v2 Q r h1 h2 k => by
  obtain ⟨p, xs, rfl, e1, i1⟩ := h1.lst r.part
  obtain ⟨v, e2, i2⟩ := i1.atI h
  cases h2
  exact ⟨_, ix_list, p, xs, i, v, rfl, rfl, SqL.of e1, e2, k d v q i2⟩
theorem xd_frz {ds : List Dt} {i : Int} {d : Dt} {R : Dt → Prop} (h : atI ds i = some d) (q : R d) : XD X (.frz ds) (.int i) R := fun C F ρ σ H v1 v2 Q r h1 h2 k => by
  obtain ⟨p, o, xs, rfl, e1, i1⟩ := h1.frz r.part
  obtain ⟨v, e2, i2⟩ := i1.atI h
  cases h2
  exact ⟨_, ix_list, p, xs, i, v, rfl, rfl, .inl (.inr ⟨o, e1⟩), e2, k d v q i2⟩
theorem xd_tup {ds : List Dt} {i : Int} {d : Dt} {R : Dt → Prop} (h : atI ds i = some d) (q : R d) : XD X (.tup ds) (.int i) R := fun C F ρ σ H v1 v2 Q r h1 h2 k => by
  obtain ⟨p, xs, rfl, _, e1, i1⟩ := h1.tup r.part
  obtain ⟨v, e2, i2⟩ := i1.atI h
  cases h2
  exact ⟨_, ix_tup, p, xs, i, v, rfl, rfl, SqT.of e1, e2, k d v q i2⟩
theorem xd_str {z : Str} {i : Int} {c : Nat} {R : Dt → Prop} (hz : z.length ≤ sizeLine) (h : atI z.cps.toList i = some c) (q : R (.str ⟨#[c]⟩)) : XD X (.str z) (.int i) R := fun C F ρ σ H v1 v2 Q r h1 h2 k => by
  rcases h1 with h1 | ⟨_, _, h1⟩
  · cases h1; cases h2
    exact ⟨_, ix_str, z, i, c, rfl, rfl, hz, h, k _ _ q (.str _)⟩
  · exact h1.elim
theorem ix_dict (hu : X.A.units + 1 < cLine) : IxR X (fun x y H Q => ∃ a v, x = .ref a ∧ DGet H a y (some v) ∧ Q v H) := by
  intro value slice pins s σ H x y v u Q I rx ry h hs
  obtain ⟨a, z, rfl, g, q⟩ := h
  cases rx
  have hT := dict_typeIs I g
  unfold subscriptTail
  refine wpAny_bind ?_
  rw [getitemInPython_of_ne hT.not_modules]
  refine wpAny_bind (wpAny_specialOf hT PySem.F.slot_dict_getitem.lookup ?_)
  have fin : wpAny (model X.prog X.w) X.A (subscripted slice false (.ref a) u) (fun r s₃ => wpAny (model X.prog X.w) X.A (letTemporaryGo value (.ref a) r >>= fun _ => pure r) (EP X pins σ Q) X.xe s₃) X.xe s := by
    rw [hs]
    exact wpAny_operating (wpAny_mono (d_getItem (E := X.xe) hu I g ry fun w' s3 I3 rw' => (⟨z, H, I3, rw', q⟩ : EP X pins σ Q w' s3)) (fun r s₃ h₃ => wpAny_bind (wpAny_letTemporaryGo (wpAny_pure h₃))) fun _ _ x => x)
  first
    | exact wpAny_pure (wpAny_bind fin)
    | exact wpAny_bind (wpAny_pure (wpAny_bind fin))
    | exact wpAny_bind fin
theorem hu1 {X : Cx} (hu : X.A.units + 64 < cLine) : X.A.units + 1 < cLine := Nat.lt_of_le_of_lt (by omega) hu
theorem xd_dK (hu : X.A.units + 64 < cLine) {ds : List (Key × Dt)} {k : Key} {d2 d : Dt} {R : Dt → Prop} (ek : keyD k = d2) (h : valD ds k = some d) (q : R d) : XD X (.dK ds) d2 R := fun C F ρ σ H v1 v2 Q r h1 h2 kk => by
  obtain ⟨p, xs, rfl, e1, i1⟩ := h1.dK r.part
  obtain ⟨v, e2, i2⟩ := (i1.val k).1 d h
  have ev : v2 = kV k := by cases k <;> (subst ek; cases h2; rfl)
  subst ev
  exact ⟨_, ix_dict (hu1 hu), p, v, rfl, e2 ▸ DGet.k e1, kk d v q i2⟩
theorem xd_dKi (hu : X.A.units + 64 < cLine) {ds : List (Key × Dt)} {i : Int} {d : Dt} {R : Dt → Prop} (h : valD ds (.inl i) = some d) (q : R d) : XD X (.dK ds) (.int i) R := xd_dK hu (k := .inl i) rfl h q
theorem xd_dKs (hu : X.A.units + 64 < cLine) {ds : List (Key × Dt)} {i : Str} {d : Dt} {R : Dt → Prop} (h : valD ds (.inr i) = some d) (q : R d) : XD X (.dK ds) (.str i) R := xd_dK hu (k := .inr i) rfl h q
theorem xd_dT (hu : X.A.units + 64 < cLine) {ds : List (List Key × Dt)} (ks : List Key) {es : List Dt} {d : Dt} {R : Dt → Prop} (ek : es = ks.map keyD) (h : valD ds ks = some d) (q : R d) : XD X (.dT ds) (.tup es) R := fun C F ρ σ H v1 v2 Q r h1 h2 kk => by
  obtain ⟨p, xs, rfl, e1, i1⟩ := h1.dT r.part
  obtain ⟨v, e2, i2⟩ := (i1.val ks).1 d h
  subst ek
  cases h2 with
  | @tup b ys _ e3 i3 =>
    have := isAll_keys i3
    subst this
    exact ⟨_, ix_dict (hu1 hu), p, v, rfl, e2 ▸ DGet.t e1 (r.part _ _ e3), kk d v q i2⟩

/-! ### comparisons -/
def CD (X : Cx) (op : CmpOp) (d1 d2 : Dt) (R : Bool → Prop) : Prop := ∀ (C : Run) (F : Hp) (ρ : Env) (σ : L2.St) (H : Hp) (v1 v2 : V) (Q : VK), Rep X.prog X.w C F ρ σ H → Is F d1 v1 → TV X.prog X.w F H d2 v2 →
  (∀ c, R c → Q (.bl c) H) → ∃ r, OpR X (compareOp op) r ∧ r v1 v2 H Q
theorem j_cmp {op : CmpOp} (h : JE X a ρ fun d1 ρ1 => JV X b ρ1 fun av ρ2 => ∃ d2, av.get ρ2 = some d2 ∧ CD X op d1 d2 fun c => R (.bl c) ρ2) (hm : behindInMarks op b = false := by first | exact nomark _ | rfl) : JE X (.Compare a [op] [b] pos) ρ R := fun C F σ H Q r k => by
  refine re_of (pe_cmpR op_any re_pe re_pe hm) ?_
  refine h C F σ H _ r fun d1 ρ1 v1 F1 H1 h1 e1 r1 i1 => ?_
  refine h1 C F1 σ H1 _ r1 fun av ρ2 v2 F2 H2 h2 e2 r2 i2 => ?_
  obtain ⟨d2, g, h2⟩ := h2
  exact h2 C F2 ρ2 σ H2 v1 v2 Q r2 (i1.mono e2) (i2.tv r2 g) fun c q => k _ ρ2 _ F2 H2 q (e1.trans e2) r2 (.bl c)
theorem jt_cmp {op : CmpOp} {R : Bool → Env → Prop} (h : JE X a ρ fun d1 ρ1 => JV X b ρ1 fun av ρ2 => ∃ d2, av.get ρ2 = some d2 ∧ CD X op d1 d2 fun c => R c ρ2) (hm : behindInMarks op b = false := by first | exact nomark _ | rfl) : JT X (.Compare a [op] [b] pos) ρ R := fun C F σ H Q r k => by
  refine rt_of (pt_cmpR op_any re_pe re_pe hm) ?_
  refine h C F σ H _ r fun d1 ρ1 v1 F1 H1 h1 e1 r1 i1 => ?_
  refine h1 C F1 σ H1 _ r1 fun av ρ2 v2 F2 H2 h2 e2 r2 i2 => ?_
  obtain ⟨d2, g, h2⟩ := h2
  exact h2 C F2 ρ2 σ H2 v1 v2 _ r2 (i1.mono e2) (i2.tv r2 g) fun c q => ⟨c, rfl, k c ρ2 F2 H2 q (e1.trans e2) r2⟩
section
variable {R : Bool → Prop} {i j : Int} {x y : Str} {d : Dt}
theorem tv_int {P : Program} {w : World} {F H : Hp} {v : V} (h : TV P w F H (.int i) v) : v = .int i := by
  rcases h with h | ⟨_, _, h⟩
  · cases h; rfl
  · exact h.elim
theorem tv_str {P : Program} {w : World} {F H : Hp} {v : V} (h : TV P w F H (.str x) v) : v = .str x := by
  rcases h with h | ⟨_, _, h⟩
  · cases h; rfl
  · exact h.elim
theorem tv_non {P : Program} {w : World} {F H : Hp} {v : V} (h : TV P w F H .non v) : v = .non := by
  rcases h with h | ⟨_, _, h⟩
  · cases h; rfl
  · exact h.elim
theorem cd_lt (q : R (decide (i < j))) : CD X .Lt (.int i) (.int j) R := fun C F ρ σ H v1 v2 Q r h1 h2 k => by
  cases h1; cases tv_int h2
  exact ⟨_, op_lt, _, _, rfl, rfl, k _ q⟩
theorem cd_le (q : R (decide (i ≤ j))) : CD X .LtE (.int i) (.int j) R := fun C F ρ σ H v1 v2 Q r h1 h2 k => by
  cases h1; cases tv_int h2
  exact ⟨_, op_le, _, _, rfl, rfl, k _ q⟩
theorem cd_gt (q : R (decide (j < i))) : CD X .Gt (.int i) (.int j) R := fun C F ρ σ H v1 v2 Q r h1 h2 k => by
  cases h1; cases tv_int h2
  exact ⟨_, op_gt, _, _, rfl, rfl, k _ q⟩
theorem cd_ge (q : R (decide (j ≤ i))) : CD X .GtE (.int i) (.int j) R := fun C F ρ σ H v1 v2 Q r h1 h2 k => by
  cases h1; cases tv_int h2
  exact ⟨_, op_ge, _, _, rfl, rfl, k _ q⟩
theorem cd_eq (q : R (decide (i = j))) : CD X .Eq (.int i) (.int j) R := fun C F ρ σ H v1 v2 Q r h1 h2 k => by
  cases h1; cases tv_int h2
  refine ⟨_, op_eq, rfl, ?_⟩
  have e : decide (V.int i = V.int j) = decide (i = j) := by simp
  rw [e]; exact k _ q
theorem cd_ne (q : R (!decide (i = j))) : CD X .NotEq (.int i) (.int j) R := fun C F ρ σ H v1 v2 Q r h1 h2 k => by
  cases h1; cases tv_int h2
  refine ⟨_, op_ne, rfl, ?_⟩
  have e : decide (V.int i = V.int j) = decide (i = j) := by simp
  rw [e]; exact k _ q
theorem cd_eqS (q : R (decide (x = y))) : CD X .Eq (.str x) (.str y) R := fun C F ρ σ H v1 v2 Q r h1 h2 k => by
  cases h1; cases tv_str h2
  refine ⟨_, op_eq, rfl, ?_⟩
  have e : decide (V.str x = V.str y) = decide (x = y) := by simp
  rw [e]; exact k _ q
theorem cd_neS (q : R (!decide (x = y))) : CD X .NotEq (.str x) (.str y) R := fun C F ρ σ H v1 v2 Q r h1 h2 k => by
  cases h1; cases tv_str h2
  refine ⟨_, op_ne, rfl, ?_⟩
  have e : decide (V.str x = V.str y) = decide (x = y) := by simp
  rw [e]; exact k _ q
theorem tv_bl {P : Program} {w : World} {F H : Hp} {v : V} {c : Bool} (h : TV P w F H (.bl c) v) : v = .bl c := by
  rcases h with h | ⟨_, _, h⟩
  · cases h; rfl
  · exact h.elim
theorem cd_neB {c c' : Bool} (q : R (!decide (c = c'))) : CD X .NotEq (.bl c) (.bl c') R := fun C F ρ σ H v1 v2 Q r h1 h2 k => by
  cases h1; cases tv_bl h2
  refine ⟨_, op_ne, rfl, ?_⟩
  have e : decide (V.bl c = V.bl c') = decide (c = c') := by simp
  rw [e]; exact k _ q
def isNon : Dt → Bool
  | .non => true
  | _ => false
theorem isNon_v {F : Hp} {d : Dt} {v : V} (h : Is F d v) : decide (v = .non) = isNon d := by cases h <;> simp [isNon]
theorem cd_isN (q : R (isNon d)) : CD X .Is d .non R := fun C F ρ σ H v1 v2 Q r h1 h2 k => by
  cases tv_non h2
  refine ⟨_, op_isN, rfl, ?_⟩
  rw [isNon_v h1]; exact k _ q
theorem cd_notN (q : R (!isNon d)) : CD X .IsNot d .non R := fun C F ρ σ H v1 v2 Q r h1 h2 k => by
  cases tv_non h2
  refine ⟨_, op_notN, rfl, ?_⟩
  rw [isNon_v h1]; exact k _ q
/-- in a list, a tuple of texts; of ints -/
theorem inV_strs (x : Str) (xs : List Str) : inV (.str x) (xs.map V.str) = decide (x ∈ xs) := by
  induction xs with
  | nil => simp [inV]
  | cons y r ih =>
    unfold inV at ih ⊢
    rw [List.map_cons, List.any_cons, ih]
    show ((y == x) || decide (x ∈ r)) = decide (x ∈ y :: r)
    by_cases e : y = x
    · subst e; simp
    · have e' : ¬ x = y := fun z => e z.symm
      simp [e, e']
theorem inV_ints (x : Int) (xs : List Int) : inV (.int x) (xs.map V.int) = decide (x ∈ xs) := by
  induction xs with
  | nil => simp [inV]
  | cons y r ih =>
    unfold inV at ih ⊢
    rw [List.map_cons, List.any_cons, ih]
    show ((y == x) || decide (x ∈ r)) = decide (x ∈ y :: r)
    by_cases e : y = x
    · subst e; simp
    · have e' : ¬ x = y := fun z => e z.symm
      simp [e, e']
theorem flat_strs (xs : List Str) : (xs.map V.str).all flatV = true := by induction xs with | nil => rfl | cons _ _ ih => simpa [flatV] using ih
theorem flat_ints (xs : List Int) : (xs.map V.int).all flatV = true := by induction xs with | nil => rfl | cons _ _ ih => simpa [flatV] using ih
theorem cd_inS {xs : List Str} (q : R (decide (x ∈ xs))) : CD X .In (.str x) (.lst (xs.map Dt.str)) R := fun C F ρ σ H v1 v2 Q r h1 h2 k => by
  obtain ⟨p, ys, rfl, e1, i1⟩ := h2.lst r.part
  cases isAll_strs i1
  cases h1
  refine ⟨_, op_in_seq, p, _, rfl, .inl (SqL.of e1), rfl, flat_strs xs, ?_⟩
  rw [if_neg Bool.false_ne_true, inV_strs]; exact k _ q
theorem cd_inSt {xs : List Str} (q : R (decide (x ∈ xs))) : CD X .In (.str x) (.tup (xs.map Dt.str)) R := fun C F ρ σ H v1 v2 Q r h1 h2 k => by
  obtain ⟨p, ys, rfl, _, e1, i1⟩ := h2.tup r.part
  cases isAll_strs i1
  cases h1
  refine ⟨_, op_in_seq, p, _, rfl, .inr (SqT.of e1), rfl, flat_strs xs, ?_⟩
  rw [if_neg Bool.false_ne_true, inV_strs]; exact k _ q
theorem cd_notinSt {xs : List Str} (q : R (!decide (x ∈ xs))) : CD X .NotIn (.str x) (.tup (xs.map Dt.str)) R := fun C F ρ σ H v1 v2 Q r h1 h2 k => by
  obtain ⟨p, ys, rfl, _, e1, i1⟩ := h2.tup r.part
  cases isAll_strs i1
  cases h1
  refine ⟨_, op_notIn_seq, p, _, rfl, .inr (SqT.of e1), rfl, flat_strs xs, ?_⟩
  rw [if_pos rfl, inV_strs]; exact k _ q
theorem cd_inI {xs : List Int} (q : R (decide (i ∈ xs))) : CD X .In (.int i) (.lst (xs.map Dt.int)) R := fun C F ρ σ H v1 v2 Q r h1 h2 k => by
  obtain ⟨p, ys, rfl, e1, i1⟩ := h2.lst r.part
  cases isAll_ints i1
  cases h1
  refine ⟨_, op_in_seq, p, _, rfl, .inl (SqL.of e1), rfl, flat_ints xs, ?_⟩
  rw [if_neg Bool.false_ne_true, inV_ints]; exact k _ q
/-- in a text: one sign -/
theorem cd_inC {c : Nat} {z : Str} (q : R (decide (c ∈ z.cps.toList))) : CD X .In (.str ⟨#[c]⟩) (.str z) R := fun C F ρ σ H v1 v2 Q r h1 h2 k => by
  cases h1; cases tv_str h2
  exact ⟨_, op_in_sign, _, _, rfl, rfl, k _ q⟩
theorem cd_notinC {c : Nat} {z : Str} (q : R (!decide (c ∈ z.cps.toList))) : CD X .NotIn (.str ⟨#[c]⟩) (.str z) R := fun C F ρ σ H v1 v2 Q r h1 h2 k => by
  cases h1; cases tv_str h2
  exact ⟨_, op_notIn_sign, _, _, rfl, rfl, k _ q⟩
/-- in a dict -/
theorem op_in_dict (hu : X.A.units + 1 < cLine) : OpR X (compareOp .In) (fun x y H Q => ∃ a o, y = .ref a ∧ DGet H a x o ∧ Q (.bl o.isSome) H) := by
  intro pins s σ H x y v u Q I rx ry h
  obtain ⟨a, o, rfl, g, q⟩ := h
  cases ry
  exact d_in hu I g rx fun s3 I3 => ⟨.bl o.isSome, H, I3, rfl, q⟩
theorem op_notin_dict (hu : X.A.units + 1 < cLine) : OpR X (compareOp .NotIn) (fun x y H Q => ∃ a o, y = .ref a ∧ DGet H a x o ∧ Q (.bl (!o.isSome)) H) := by
  intro pins s σ H x y v u Q I rx ry h
  obtain ⟨a, o, rfl, g, q⟩ := h
  cases ry
  exact d_notIn hu I g rx fun s3 I3 => ⟨.bl (!o.isSome), H, I3, rfl, q⟩
theorem key_v {F : Hp} {k : Key} {d : Dt} {v : V} (e : keyD k = d) (h : Is F d v) : v = kV k := by cases k <;> (subst e; cases h; rfl)
theorem cd_inK (hu : X.A.units + 64 < cLine) {ds : List (Key × Dt)} {k : Key} (ek : keyD k = d) (q : R (valD ds k).isSome) : CD X .In d (.dK ds) R := fun C F ρ σ H v1 v2 Q r h1 h2 kk => by
  obtain ⟨p, xs, rfl, e1, i1⟩ := h2.dK r.part
  cases key_v ek h1
  refine ⟨_, op_in_dict (hu1 hu), p, _, rfl, DGet.k e1, ?_⟩
  rw [isK_isSome k i1]; exact kk _ q
theorem cd_notinK (hu : X.A.units + 64 < cLine) {ds : List (Key × Dt)} {k : Key} (ek : keyD k = d) (q : R (!(valD ds k).isSome)) : CD X .NotIn d (.dK ds) R := fun C F ρ σ H v1 v2 Q r h1 h2 kk => by
  obtain ⟨p, xs, rfl, e1, i1⟩ := h2.dK r.part
  cases key_v ek h1
  refine ⟨_, op_notin_dict (hu1 hu), p, _, rfl, DGet.k e1, ?_⟩
  rw [isK_isSome k i1]; exact kk _ q
theorem cd_inKs (hu : X.A.units + 64 < cLine) {ds : List (Key × Dt)} (q : R (valD ds (.inr x)).isSome) : CD X .In (.str x) (.dK ds) R := cd_inK hu (k := .inr x) rfl q
theorem cd_inKi (hu : X.A.units + 64 < cLine) {ds : List (Key × Dt)} (q : R (valD ds (.inl i)).isSome) : CD X .In (.int i) (.dK ds) R := cd_inK hu (k := .inl i) rfl q
theorem cd_notinKi (hu : X.A.units + 64 < cLine) {ds : List (Key × Dt)} (q : R (!(valD ds (.inl i)).isSome)) : CD X .NotIn (.int i) (.dK ds) R := cd_notinK hu (k := .inl i) rfl q
end

/-! ### and, or, not; tests -/
theorem j_and {rest : List Expr} (h : JE X a ρ fun d1 ρ1 => ∃ c, d1 = .bl c ∧ (c = true → JE X (.BoolOp .And (b :: rest) pos) ρ1 R) ∧ (c = false → R (.bl false) ρ1)) : JE X (.BoolOp .And (a :: b :: rest) pos) ρ R := fun C F σ H Q r k => by
  refine re_of (pe_and re_pe re_pe) ?_
  refine h C F σ H _ r fun d1 ρ1 v1 F1 H1 ⟨c, e, h1, h2⟩ e1 r1 i1 => ?_
  subst e
  cases i1
  refine ⟨c, rfl, ?_⟩
  cases c with
  | true => exact h1 rfl C F1 σ H1 Q r1 fun d ρ' v F' H' q e2 r2 i2 => k d ρ' v F' H' q (e1.trans e2) r2 i2
  | false => exact k _ ρ1 _ F1 H1 (h2 rfl) e1 r1 (.bl false)
theorem j_or {rest : List Expr} (h : JE X a ρ fun d1 ρ1 => ∃ c, d1 = .bl c ∧ (c = false → JE X (.BoolOp .Or (b :: rest) pos) ρ1 R) ∧ (c = true → R (.bl true) ρ1)) : JE X (.BoolOp .Or (a :: b :: rest) pos) ρ R := fun C F σ H Q r k => by
  refine re_of (pe_or re_pe re_pe) ?_
  refine h C F σ H _ r fun d1 ρ1 v1 F1 H1 ⟨c, e, h1, h2⟩ e1 r1 i1 => ?_
  subst e
  cases i1
  refine ⟨c, rfl, ?_⟩
  cases c with
  | false => exact h1 rfl C F1 σ H1 Q r1 fun d ρ' v F' H' q e2 r2 i2 => k d ρ' v F' H' q (e1.trans e2) r2 i2
  | true => exact k _ ρ1 _ F1 H1 (h2 rfl) e1 r1 (.bl true)
theorem j_bone {op : BoolOp} (h : JE X a ρ R) : JE X (.BoolOp op [a] pos) ρ R := fun C F σ H Q r k => re_of (pe_one re_pe) (h C F σ H Q r k)
theorem j_not (h : JE X a ρ fun d1 ρ1 => ∃ c, d1 = .bl c ∧ R (.bl (!c)) ρ1) : JE X (.UnaryOp .Not a pos) ρ R := fun C F σ H Q r k => by
  refine re_of (pe_not re_pe) ?_
  refine h C F σ H _ r fun d1 ρ1 v1 F1 H1 ⟨c, e, h1⟩ e1 r1 i1 => ?_
  subst e
  cases i1
  exact ⟨c, rfl, k _ ρ1 _ F1 H1 h1 e1 r1 (.bl _)⟩
theorem j_neg (h : JE X a ρ fun d1 ρ1 => ∃ i, d1 = .int i ∧ R (.int (-i)) ρ1) : JE X (.UnaryOp .USub a pos) ρ R := fun C F σ H Q r k => by
  refine re_of (pe_un un_neg re_pe) ?_
  refine h C F σ H _ r fun d1 ρ1 v1 F1 H1 ⟨c, e, h1⟩ e1 r1 i1 => ?_
  subst e
  cases i1
  exact ⟨c, rfl, k _ ρ1 _ F1 H1 h1 e1 r1 (.int _)⟩
section
variable {R : Bool → Env → Prop}
theorem jt_val (h : JE X e ρ fun d ρ' => ∃ c, d = .bl c ∧ R c ρ') (he : ∀ whole, isTrue e X.env whole = (do let v ← whole; standAt e.pos; holding [v] (truthy v)) := by intro _; rfl) : JT X e ρ R := fun C F σ H Q r k => by
  refine rt_of (pt_val re_pe he) ?_
  refine h C F σ H _ r fun d1 ρ1 v1 F1 H1 ⟨c, e, h1⟩ e1 r1 i1 => ?_
  subst e
  cases i1
  exact ⟨c, rfl, k c ρ1 F1 H1 h1 e1 r1⟩
theorem jt_not (h : JT X a ρ fun c ρ' => R (!c) ρ') : JT X (.UnaryOp .Not a pos) ρ R := fun C F σ H Q r k => by
  refine rt_of (pt_not rt_pt) ?_
  exact h C F σ H _ r fun c ρ1 F1 H1 h1 e1 r1 => k _ ρ1 F1 H1 h1 e1 r1
theorem jt_bool {op : BoolOp} (h : JW X (.BoolOp op es pos) ρ R) : JT X (.BoolOp op es pos) ρ R := fun C F σ H Q r k => by
  refine rt_of (PW.pt rw_pw) ?_
  exact h C F σ H _ r k
theorem jw_and1 (h : JT X a ρ R) : JW X (.BoolOp .And [a] pos) ρ R := fun C F σ H Q r k => rw_of (pw_and1 rt_pt) (h C F σ H Q r k)
theorem jw_or1 (h : JT X a ρ R) : JW X (.BoolOp .Or [a] pos) ρ R := fun C F σ H Q r k => rw_of (pw_or1 rt_pt) (h C F σ H Q r k)
theorem jw_and {rest : List Expr} (h : JT X a ρ fun c ρ1 => (c = true → JW X (.BoolOp .And (b :: rest) pos) ρ1 R) ∧ (c = false → R false ρ1)) : JW X (.BoolOp .And (a :: b :: rest) pos) ρ R := fun C F σ H Q r k => by
  refine rw_of (pw_and rt_pt rw_pw) ?_
  refine h C F σ H _ r fun c ρ1 F1 H1 ⟨h1, h2⟩ e1 r1 => ?_
  cases c with
  | true => exact h1 rfl C F1 σ H1 Q r1 fun d ρ' F' H' q e2 r2 => k d ρ' F' H' q (e1.trans e2) r2
  | false => exact k _ ρ1 F1 H1 (h2 rfl) e1 r1
theorem jw_or {rest : List Expr} (h : JT X a ρ fun c ρ1 => (c = false → JW X (.BoolOp .Or (b :: rest) pos) ρ1 R) ∧ (c = true → R true ρ1)) : JW X (.BoolOp .Or (a :: b :: rest) pos) ρ R := fun C F σ H Q r k => by
  refine rw_of (pw_or rt_pt rw_pw) ?_
  refine h C F σ H _ r fun c ρ1 F1 H1 ⟨h1, h2⟩ e1 r1 => ?_
  cases c with
  | false => exact h1 rfl C F1 σ H1 Q r1 fun d ρ' F' H' q e2 r2 => k d ρ' F' H' q (e1.trans e2) r2
  | true => exact k _ ρ1 F1 H1 (h2 rfl) e1 r1
end

/-! ### displays -/
def JL' (X : Cx) (es : List Expr) (ρ : Env) (R : List Dt → Env → Prop) : Prop := ∀ (C : Run) (F : Hp) (σ : L2.St) (H : Hp) (Q : List V → Hp → Prop), Rep X.prog X.w C F ρ σ H →
  (∀ ds ρ' vs F' H', R ds ρ' → Same F F' → Rep X.prog X.w C F' ρ' σ H' → IsAll F' ds vs → ds.length = es.length → Q vs H') → RA X es σ H Q
theorem l_nil {R : List Dt → Env → Prop} (q : R [] ρ) : JL' X [] ρ R := fun C F σ H Q r k => ra_of pa_nil (k [] ρ [] F H q (Same.refl F) r .nil rfl)
theorem l_cons {R : List Dt → Env → Prop} (h : JE X e ρ fun d ρ1 => JL' X es ρ1 fun ds ρ2 => R (d :: ds) ρ2) (hs : starEach (e :: es) X.env = (false, eval e X.env) :: starEach es X.env := by rfl) : JL' X (e :: es) ρ R := fun C F σ H Q r k => by
  refine ra_of (pa_cons re_pe ra_pa hs) ?_
  refine h C F σ H _ r fun d ρ1 v F1 H1 h1 e1 r1 i1 => ?_
  refine h1 C F1 σ H1 _ r1 fun ds ρ2 vs F2 H2 h2 e2 r2 i2 l => ?_
  exact k (d :: ds) ρ2 (v :: vs) F2 H2 h2 (e1.trans e2) r2 (.cons (i1.mono e2) i2) (congrArg (· + 1) l)
theorem sz1000 {n : Nat} (h : n ≤ 1000) : n ≤ sizeLine := Nat.le_trans h (by decide)
theorem j_tup {x1 : Nat} (h : JL' X es ρ fun ds ρ' => R (.tup ds) ρ') (hz : es.length ≤ 1000 := by decide) : JE X (.Tuple es x1 pos) ρ R := fun C F σ H Q r k => by
  refine re_of (pe_tup ra_pa) ?_
  refine h C F σ H _ r fun ds ρ1 vs F1 H1 h1 e1 r1 i1 l => ⟨by rw [← i1.length, l]; exact sz1000 hz, fun p hp => ?_⟩
  obtain ⟨r2, e2⟩ := r1.new (.tup vs) hp
  exact k _ ρ1 _ _ _ h1 (e1.trans e2) r2 (.tup upd_same (i1.mono e2))
theorem j_lst (h : JL' X es ρ fun ds ρ' => R (.lst ds) ρ') (hz : es.length ≤ 1000 := by decide) : JE X (.List es pos) ρ R := fun C F σ H Q r k => by
  refine re_of (pe_lst ra_pa) ?_
  refine h C F σ H _ r fun ds ρ1 vs F1 H1 h1 e1 r1 i1 l => ⟨by rw [← i1.length, l]; exact sz1000 hz, fun p hp => ?_⟩
  obtain ⟨r2, e2⟩ := r1.new (.lst vs) hp
  exact k _ ρ1 _ _ _ h1 (e1.trans e2) r2 (.lst upd_same (i1.mono e2))
theorem Rep.notHeld {P : Program} {w : World} {C : Run} {F H : Hp} {ρ : Env} {σ : L2.St} (r : Rep P w C F ρ σ H) {p : Addr} (hp : H p = none) : ∀ (i : Nat) (j : Option Nat) (c : Dt), ρ[i]? = some (.own j c) → σ[i]? ≠ some (some (.ref p)) := fun i j c h z => by
  obtain ⟨a, h1, _, h3, _⟩ := r.own h
  rw [z] at h1; cases h1
  obtain ⟨u, q⟩ := h3.there
  rw [hp] at q; cases q
theorem n_lst (h : JL' X es ρ fun ds ρ' => R (.lst ds) ρ') (hz : es.length ≤ 1000 := by decide) : JN X (.List es pos) ρ R := fun C F σ H Q r k => by
  refine re_of (pe_lst ra_pa) ?_
  refine h C F σ H _ r fun ds ρ1 vs F1 H1 h1 e1 r1 i1 l => ⟨by rw [← i1.length, l]; exact sz1000 hz, fun p hp => ?_⟩
  exact k _ ρ1 _ F1 _ h1 e1 (r1.alone _ hp) (fresh_F r1.part hp) (r1.fresh0 hp) (r1.freshT hp) ⟨vs, upd_same, i1⟩ (r1.notHeld hp)
theorem n_dK (q : R (.dK []) ρ) : JN X (.Dict [] [] pos) ρ R := fun C F σ H Q r k => by
  refine re_of pe_dnewK fun p hp => ?_
  exact k _ ρ _ F _ q (Same.refl F) (r.alone _ hp) (fresh_F r.part hp) (r.fresh0 hp) (r.freshT hp) ⟨[], upd_same, .nil⟩ (r.notHeld hp)
theorem n_dT (q : R (.dT []) ρ) : JN X (.Dict [] [] pos) ρ R := fun C F σ H Q r k => by
  refine re_of pe_dnewT fun p hp => ?_
  exact k _ ρ _ F _ q (Same.refl F) (r.alone _ hp) (fresh_F r.part hp) (r.fresh0 hp) (r.freshT hp) ⟨[], upd_same, .nil⟩ (r.notHeld hp)
/-- a new object may be shared at once -/
theorem j_new (h : JN X e ρ R) (hd : ∀ d ρ', R d ρ' → ∀ kvs, d ≠ .dN kvs) : JE X e ρ R := fun C F σ H Q r k => by
  refine h C F σ H Q r fun c ρ' p F' H' q e1 r1 hF h0 hT ht hn => ?_
  cases c with
  | lst ds =>
    obtain ⟨xs, h1, h2⟩ := ht
    obtain ⟨r2, e2⟩ := r1.share h1 h0 hF hn hT
    exact k _ ρ' _ _ _ q (e1.trans e2) r2 (.lst upd_same (h2.mono e2))
  | dK ds =>
    obtain ⟨xs, h1, h2⟩ := ht
    obtain ⟨r2, e2⟩ := r1.share h1 h0 hF hn hT
    exact k _ ρ' _ _ _ q (e1.trans e2) r2 (.dK upd_same (h2.mono e2))
  | dT ds =>
    obtain ⟨xs, h1, h2⟩ := ht
    obtain ⟨r2, e2⟩ := r1.share h1 h0 hF hn hT
    exact k _ ρ' _ _ _ q (e1.trans e2) r2 (.dT upd_same (h2.mono e2))
  | dN ds => exact absurd rfl (hd _ _ q ds)
  | _ => exact ht.elim

/-! ### lists and tuples joined, repeated, cut -/
theorem bd_addL {ds es : List Dt} {R : Dt → Prop} (hz : ds.length + es.length ≤ sizeLine) (q : R (.lst (ds ++ es))) : BD X .Add (.lst ds) (.lst es) R := fun C F ρ σ H v1 v2 Q r h1 h2 k => by
  cases h1 with
  | lst a1 b1 =>
    cases h2 with
    | lst a2 b2 =>
      refine ⟨_, op_cat, _, _, _, _, rfl, rfl, r.part _ _ a1, r.part _ _ a2, by rw [← b1.length, ← b2.length]; exact hz, fun p hp => ?_⟩
      obtain ⟨r2, e2⟩ := r.new (.lst _) hp
      exact k _ _ _ _ q e2 r2 (.lst upd_same ((b1.append b2).mono e2))
theorem bd_addT {ds es : List Dt} {R : Dt → Prop} (hz : ds.length + es.length ≤ sizeLine) (q : R (.tup (ds ++ es))) : BD X .Add (.tup ds) (.tup es) R := fun C F ρ σ H v1 v2 Q r h1 h2 k => by
  cases h1 with
  | @tup p1 xs1 _ a1 b1 =>
    cases h2 with
    | @tup p2 xs2 _ a2 b2 =>
      refine ⟨_, op_catA, _, _, _, _, rfl, rfl, SqT.of (r.part _ _ a1), SqT.of (r.part _ _ a2), by rw [← b1.length, ← b2.length]; exact hz, fun hx => ?_, fun _ hy => ?_, fun _ _ p hp => ?_⟩
      · subst hx
        cases b1
        exact k _ _ F H q (Same.refl F) r (.tup a2 b2)
      · subst hy
        cases b2
        rw [List.append_nil] at q
        exact k _ _ F H q (Same.refl F) r (.tup a1 b1)
      · obtain ⟨r2, e2⟩ := r.new (.tup _) hp
        exact k _ _ _ _ q e2 r2 (.tup upd_same ((b1.append b2).mono e2))
theorem IsAll.rep {F : Hp} {ds : List Dt} {vs : List V} (h : IsAll F ds vs) : ∀ k : Nat, IsAll F (List.replicate k ds).flatten (List.replicate k vs).flatten
  | 0 => .nil
  | k + 1 => by
    rw [List.replicate_succ, List.replicate_succ, List.flatten_cons, List.flatten_cons]
    exact h.append (IsAll.rep h k)
theorem bd_repL {ds : List Dt} {n : Int} {R : Dt → Prop} (h0 : -(2 ^ 63) ≤ n) (h1 : n < 2 ^ 63) (hz : ds.length * n.toNat ≤ sizeLine) (q : R (.lst (List.replicate n.toNat ds).flatten)) : BD X .Mult (.lst ds) (.int n) R := fun C F ρ σ H v1 v2 Q r i1 i2 k => by
  cases i1 with
  | lst a1 b1 =>
    cases i2
    refine ⟨_, op_rep, _, _, _, rfl, rfl, r.part _ _ a1, h0, h1, by rw [← b1.length]; exact hz, fun p hp => ?_⟩
    obtain ⟨r2, e2⟩ := r.new (.lst _) hp
    exact k _ _ _ _ q e2 r2 (.lst upd_same ((b1.rep _).mono e2))
/-- slices -/
def JO (X : Cx) (e : Option Expr) (ρ : Env) (R : Option Int → Env → Prop) : Prop := ∀ (C : Run) (F : Hp) (σ : L2.St) (H : Hp) (Q : Option Int → Hp → Prop), Rep X.prog X.w C F ρ σ H →
  (∀ o ρ' F' H', R o ρ' → Same F F' → Rep X.prog X.w C F' ρ' σ H' → Q o H') → ∃ t, PO X e t ∧ t σ H Q
theorem o_none {R : Option Int → Env → Prop} (q : R none ρ) : JO X none ρ R := fun C F σ H Q r k => ⟨_, po_none, k none ρ F H q (Same.refl F) r⟩
theorem o_some {R : Option Int → Env → Prop} (h : JE X e ρ fun d ρ' => ∃ i, d = .int i ∧ R (some i) ρ') : JO X (some e) ρ R := fun C F σ H Q r k => ⟨_, po_some re_pe, h C F σ H _ r fun d ρ' v F' H' ⟨i, e, q⟩ e1 r1 i1 => by
  subst e
  cases i1
  exact ⟨i, rfl, k _ ρ' F' H' q e1 r1⟩⟩
def cutD (ds : List Dt) (lo hi : Option Int) : List Dt := (ds.drop (HT.sIx ds.length 0 lo)).take (HT.sIx ds.length ds.length hi - HT.sIx ds.length 0 lo)
theorem IsAll.cut {F : Hp} {ds : List Dt} {vs : List V} (h : IsAll F ds vs) (lo hi : Option Int) : IsAll F (cutD ds lo hi) (cutV vs lo hi) := by
  unfold cutD cutV
  rw [h.length]
  exact (h.drop _).take _
theorem po_any {oe : Option Expr} : PO X oe (fun σ H Q => ∃ t, PO X oe t ∧ t σ H Q) := ⟨fun pins s σ H Q I ⟨t, h, q⟩ => h.run pins s σ H Q I q⟩
/-- a cut, by data -/
def SD (X : Cx) (d : Dt) (lo hi : Option Int) (R : Dt → Prop) : Prop := ∀ (C : Run) (F : Hp) (ρ : Env) (σ : L2.St) (H : Hp) (v : V) (Q : VK), Rep X.prog X.w C F ρ σ H → TV X.prog X.w F H d v →
  (∀ d v F' H', R d → Same F F' → Rep X.prog X.w C F' ρ σ H' → Is F' d v → Q v H') → ∃ r, SlR X r ∧ r v lo hi H Q
theorem sl_any : SlR X (fun x lo hi H Q => ∃ r, SlR X r ∧ r x lo hi H Q) := fun pins s σ H x v vl vu lo hi sl Q I rx hs pl pu ⟨r, h, q⟩ => h pins s σ H x v vl vu lo hi sl Q I rx hs pl pu q
theorem j_slice {lo hi : Option Expr} {p2 : Pos} (h : JV X a ρ fun av ρ1 => JO X lo ρ1 fun l ρ2 => JO X hi ρ2 fun u ρ3 => ∃ d1, av.get ρ3 = some d1 ∧ SD X d1 l u fun d => R d ρ3) : JE X (.Subscript a (.Slice lo hi none p2) pos) ρ R := fun C F σ H Q r k => by
  refine re_of (pe_slice sl_any re_pe po_any po_any) ?_
  refine h C F σ H _ r fun av ρ1 v1 F1 H1 h1 e1 r1 i1 => ?_
  refine h1 C F1 σ H1 _ r1 fun l ρ2 F2 H2 h2 e2 r2 => ?_
  refine h2 C F2 σ H2 _ r2 fun u ρ3 F3 H3 h3 e3 r3 => ?_
  obtain ⟨d1, g, h3⟩ := h3
  exact h3 C F3 ρ3 σ H3 v1 Q r3 (((i1.mono e2).mono e3).tv r3 g) fun d v F4 H4 q e4 r4 i4 => k d ρ3 v F4 H4 q (e1.trans (e2.trans (e3.trans e4))) r4 i4
theorem sd_lst {ds : List Dt} {lo hi : Option Int} {R : Dt → Prop} (q : R (.lst (cutD ds lo hi))) : SD X (.lst ds) lo hi R := fun C F ρ σ H v Q r h k => by
  obtain ⟨p, xs, rfl, e1, i1⟩ := h.lst r.part
  refine ⟨_, sl_list, p, xs, rfl, SqL.of e1, fun l hl => ?_⟩
  obtain ⟨r2, e2⟩ := r.new (.lst _) hl
  exact k _ _ _ _ q e2 r2 (.lst upd_same ((i1.cut lo hi).mono e2))
theorem sd_tup {ds : List Dt} {lo hi : Option Int} {R : Dt → Prop} (q : R (.tup (cutD ds lo hi))) : SD X (.tup ds) lo hi R := fun C F ρ σ H v Q r h k => by
  obtain ⟨p, xs, rfl, e0, e1, i1⟩ := h.tup r.part
  refine ⟨_, sl_tupA, p, xs, rfl, SqT.of e1, fun hw => ?_, fun _ l hl => ?_⟩
  · have e : cutD ds lo hi = ds := by
      unfold cutD
      rw [i1.length, hw.1, hw.2, List.drop_zero, Nat.sub_zero, ← i1.length, List.take_length]
    rw [e] at q
    exact k _ _ F H q (Same.refl F) r (.tup e0 i1)
  · obtain ⟨r2, e2⟩ := r.new (.tup _) hl
    exact k _ _ _ _ q e2 r2 (.tup upd_same ((i1.cut lo hi).mono e2))
theorem sd_str {z : Str} {lo hi : Option Int} {R : Dt → Prop} (hz : z.length ≤ sizeLine) (q : R (.str (cutS z lo hi))) : SD X (.str z) lo hi R := fun C F ρ σ H v Q r h k => by
  cases tv_str h
  exact ⟨_, sl_str, z, rfl, hz, k _ _ F H q (Same.refl F) r (.str _)⟩
end
end DL

set_option Elab.async false
set_option linter.all false
set_option maxRecDepth 100000
set_option autoImplicit false
/-! D4: statements, targets, what is walked, loops, comprehensions. -/
namespace DL
open PySem PySem.Spec L2

structure R1 (X : Cx) (st : Stmt) (σ : L2.St) (H : Hp) (E : Ends) : Prop where
  run : ∀ (pins : List (Addr × Obj)) (s : Shared), Inv X pins σ H s → wpAny (model X.prog X.w) X.A (exec st X.env) (SP X pins E) X.xe s
structure RS (X : Cx) (sts : List Stmt) (σ : L2.St) (H : Hp) (E : Ends) : Prop where
  run : ∀ (pins : List (Addr × Obj)) (s : Shared), Inv X pins σ H s → wpAny (model X.prog X.w) X.A (execs sts X.env) (SP X pins E) X.xe s
def RG (X : Cx) (tg : Expr) (v : V) (σ : L2.St) (H : Hp) (Q : L2.St → Hp → Prop) : Prop := ∃ t, PG X tg t ∧ t v σ H Q
section
variable {X : Cx} {st : Stmt} {sts : List Stmt} {σ : L2.St} {H : Hp} {tg : Expr}
theorem r1_ps : PS X st (fun E σ H => R1 X st σ H E) := ⟨fun pins s σ H D I h => h.run pins s I⟩
theorem rs_pss : PSs X sts (fun E σ H => RS X sts σ H E) := ⟨fun pins s σ H D I h => h.run pins s I⟩
theorem rg_pg : PG X tg (RG X tg) := ⟨fun pins s σ H v u Q I r ⟨t, h, q⟩ => h.run pins s σ H v u Q I r q⟩
theorem r1_of {t : TS} {E : Ends} (h : PS X st t) (q : t E σ H) : R1 X st σ H E := ⟨fun pins s I => h.run pins s σ H E I q⟩
theorem rs_of {t : TS} {E : Ends} (h : PSs X sts t) (q : t E σ H) : RS X sts σ H E := ⟨fun pins s I => h.run pins s σ H E I q⟩
end

/-- what is wanted behind: next, return -/
structure DEnd where
  nx : Env → Prop
  rt : DP
structure EndOk (X : Cx) (C : Run) (F : Hp) (D : DEnd) (E : Ends) : Prop where
  nx : ∀ ρ' σ' F' H', D.nx ρ' → Same F F' → Rep X.prog X.w C F' ρ' σ' H' → E.nx σ' H'
  rt : ∀ d ρ' σ' v F' H', D.rt d ρ' → Same F F' → Rep X.prog X.w C F' ρ' σ' H' → Is F' d v → E.rt v H'
theorem EndOk.mono {X : Cx} {C : Run} {F F' : Hp} {D : DEnd} {E : Ends} (h : EndOk X C F D E) (e : Same F F') : EndOk X C F' D E :=
  ⟨fun ρ' σ' F2 H' q e2 r => h.nx ρ' σ' F2 H' q (e.trans e2) r, fun d ρ' σ' v F2 H' q e2 r i => h.rt d ρ' σ' v F2 H' q (e.trans e2) r i⟩
def J1 (X : Cx) (st : Stmt) (ρ : Env) (D : DEnd) : Prop := ∀ (C : Run) (F : Hp) (σ : L2.St) (H : Hp) (E : Ends), Rep X.prog X.w C F ρ σ H → EndOk X C F D E → R1 X st σ H E
def JS (X : Cx) (sts : List Stmt) (ρ : Env) (D : DEnd) : Prop := ∀ (C : Run) (F : Hp) (σ : L2.St) (H : Hp) (E : Ends), Rep X.prog X.w C F ρ σ H → EndOk X C F D E → RS X sts σ H E
/-- a target -/
def JG (X : Cx) (tg : Expr) (d : Dt) (ρ : Env) (R : Env → Prop) : Prop := ∀ (C : Run) (F : Hp) (σ : L2.St) (H : Hp) (v : V) (Q : L2.St → Hp → Prop), Rep X.prog X.w C F ρ σ H → Is F d v →
  (∀ ρ' σ' F' H', R ρ' → Same F F' → Rep X.prog X.w C F' ρ' σ' H' → Q σ' H') → RG X tg v σ H Q
def JGs (X : Cx) (tgs : List Expr) (ds : List Dt) (ρ : Env) (R : Env → Prop) : Prop := ∀ (C : Run) (F : Hp) (σ : L2.St) (H : Hp) (vs : List V) (Q : L2.St → Hp → Prop), Rep X.prog X.w C F ρ σ H → IsAll F ds vs →
  (∀ ρ' σ' F' H', R ρ' → Same F F' → Rep X.prog X.w C F' ρ' σ' H' → Q σ' H') → ∃ t, PGs X tgs t ∧ t vs σ H Q

section
variable {X : Cx} {ρ : Env} {D : DEnd} {pos : Pos} {x : Str} {a b e c : Expr} {es : List Expr} {st : Stmt} {sts rest body : List Stmt}
theorem s_nil (q : D.nx ρ) : JS X [] ρ D := fun C F σ H E r k => rs_of pss_nil (k.nx ρ σ F H q (Same.refl F) r)
theorem s_cons (h : J1 X st ρ { D with nx := fun ρ' => JS X rest ρ' D }) : JS X (st :: rest) ρ D := fun C F σ H E r k => by
  refine rs_of (pss_cons r1_ps rs_pss) ?_
  exact h C F σ H _ r ⟨fun ρ' σ' F' H' q e r' => q C F' σ' H' E r' (k.mono e), fun d ρ' σ' v F' H' q e r' i => k.rt d ρ' σ' v F' H' q e r' i⟩
theorem s_le {ρ' : Env} (l : Le ρ' ρ) (h : JS X sts ρ' D) : JS X sts ρ D := fun C F σ H E r k => h C F σ H E (r.le l) k
theorem t_le {ρ' : Env} (l : Le ρ' ρ) (h : J1 X st ρ' D) : J1 X st ρ D := fun C F σ H E r k => h C F σ H E (r.le l) k
/-- what a name holds of ours is shared from here on -/
theorem Rep.freeze {P : Program} {w : World} {C : Run} {F H : Hp} {σ : L2.St} (r : Rep P w C F ρ σ H) {i : Nat} {d : Dt} (h : ρ[i]? = some (.own none d)) (hd : ∀ kvs, d ≠ .dN kvs) :
    ∃ F', Same F F' ∧ Rep P w C F' (ρ.set i (.val d)) σ H := by
  obtain ⟨a, h1, hF, ht, hw⟩ := r.own h
  have h0 : C.H0 a = none := hw
  have hn : ∀ (j : Nat) (k : Option Nat) (c : Dt), (ρ.set i .un)[j]? = some (.own k c) → (σ.set i (σ[i]?.getD none))[j]? ≠ some (some (.ref a)) := fun j k c hj z => by
    have ne : i ≠ j := fun e => by
      subst e
      rw [List.getElem?_set] at hj
      split at hj
      · split at hj <;> cases hj
      · contradiction
    rw [List.getElem?_set_ne ne] at hj z
    exact ne (r.inj i j none d k c a h hj h1 z)
  have r0 := r.setUn (i := i) (σ[i]?.getD none)
  have key : ∀ o, H a = some o → ∀ d', (∀ F', Same F F' → F' a = some o → Is F' d' (.ref a)) → ∃ F', Same F F' ∧ Rep P w C F' (ρ.set i (.val d')) σ H := fun o ho d' hi => by
    obtain ⟨r1, e1⟩ := r0.share ho h0 hF hn (r.held i none d a h h1)
    have r2 := r1.setVal (i := i) (hi _ e1 upd_same)
    rw [List.set_set, List.set_set] at r2
    refine ⟨_, e1, ?_⟩
    have eσ : σ.set i (some (.ref a)) = σ := by
      apply List.ext_getElem?
      intro j
      by_cases e : i = j
      · subst e
        have hi : i < σ.length := by
          by_cases q : i < σ.length
          · exact q
          · rw [List.getElem?_eq_none (by simpa using q)] at h1; cases h1
        rw [List.getElem?_set_self hi, h1]
      · rw [List.getElem?_set_ne e]
    rw [eσ] at r2
    exact r2
  cases d with
  | lst ds => obtain ⟨xs, q1, q2⟩ := ht; exact key _ q1 _ fun F' e hF' => .lst hF' (q2.mono e)
  | dK ds => obtain ⟨xs, q1, q2⟩ := ht; exact key _ q1 _ fun F' e hF' => .dK hF' (q2.mono e)
  | dT ds => obtain ⟨xs, q1, q2⟩ := ht; exact key _ q1 _ fun F' e hF' => .dT hF' (q2.mono e)
  | dN ds => exact absurd rfl (hd ds)
  | _ => exact ht.elim
theorem s_freeze (i : Nat) {d : Dt} (h : ρ[i]? = some (.own none d)) (q : JS X sts (ρ.set i (.val d)) D) (hd : ∀ kvs, d ≠ .dN kvs := by intro _ z; cases z) : JS X sts ρ D := fun C F σ H E r k => by
  obtain ⟨F', e, r'⟩ := r.freeze h hd
  exact q C F' σ H E r' (k.mono e)
theorem j_freeze (i : Nat) {d : Dt} {R : DP} (h : ρ[i]? = some (.own none d)) (q : JE X e (ρ.set i (.val d)) R) (hd : ∀ kvs, d ≠ .dN kvs := by intro _ z; cases z) : JE X e ρ R := fun C F σ H Q r k => by
  obtain ⟨F', e, r'⟩ := r.freeze h hd
  exact q C F' σ H Q r' fun d ρ' v F2 H2 q e2 r2 i2 => k d ρ' v F2 H2 q (e.trans e2) r2 i2

/-! ### targets -/
theorem g_nm (i : Nat) {d : Dt} {R : Env → Prop} (q : R (ρ.set i (.val d))) (hN : X.N.Nodup) (hi : X.N[i]? = some x := by rfl) (hx : Loc X.env.scope x := by first | exact Or.inl rfl | exact Or.inr rfl)
    (hf : X.fn x = true ∨ X.env.scope.names.lookup x = some .local := by first | exact .inl rfl | exact .inr rfl) : JG X (.Name x pos) d ρ R := fun C F σ H v Q r i1 k =>
  ⟨_, pg_name hN hi hx hf, k _ _ F H q (Same.refl F) (r.setVal i1)⟩
theorem gs_nil {R : Env → Prop} (q : R ρ) : JGs X [] [] ρ R := fun C F σ H vs Q r i1 k => ⟨_, pgs_nil, by cases i1; rfl, k _ _ F H q (Same.refl F) r⟩
def RGs (X : Cx) (tgs : List Expr) (vs : List V) (σ : L2.St) (H : Hp) (Q : L2.St → Hp → Prop) : Prop := ∃ t, PGs X tgs t ∧ t vs σ H Q
theorem rgs_pgs {tgs : List Expr} : PGs X tgs (RGs X tgs) := ⟨fun pins s σ H v u Q I r ⟨t, h, q⟩ => h.run pins s σ H v u Q I r q⟩
theorem gs_cons {d : Dt} {ds : List Dt} {R : Env → Prop} (h : JG X e d ρ fun ρ1 => JGs X es ds ρ1 R)
    (hst : (assignEach (e :: es) X.env).map (·.2) = assign e X.env :: (assignEach es X.env).map (·.2) := by rfl) : JGs X (e :: es) (d :: ds) ρ R := fun C F σ H vs Q r i1 k => by
  cases i1 with
  | cons i1 i2 =>
    refine ⟨_, pgs_cons rg_pg rgs_pgs hst, _, _, rfl, ?_⟩
    refine h C F σ H _ _ r i1 fun ρ1 σ1 F1 H1 h1 e1 r1 => ?_
    exact h1 C F1 σ1 H1 _ Q r1 (i2.mono e1) fun ρ2 σ2 F2 H2 q e2 r2 => k ρ2 σ2 F2 H2 q (e1.trans e2) r2
theorem g_tup {n : Nat} {ds : List Dt} {R : Env → Prop} (h : JGs X es ds ρ R) (hl : ds.length = es.length) (hc : X.calm = true := by rfl)
    (hn : (assignEach es X.env).length = es.length := by rfl) (hst : (assignEach es X.env).findIdx? (·.1) = none := by rfl) : JG X (.Tuple es n pos) (.tup ds) ρ R := fun C F σ H v Q r i1 k => by
  cases i1 with
  | @tup a xs _ h1 h2 =>
    refine ⟨_, pg_tup hc rgs_pgs hn hst, a, xs, rfl, SqT.of (r.part _ _ h1), by rw [← h2.length, hl], ?_⟩
    exact h C F σ H xs Q r h2 k

/-! ### statements -/
theorem t_asg (i : Nat) {p' : Pos} (h : JE X e ρ fun d ρ1 => D.nx (ρ1.set i (.val d))) (hN : X.N.Nodup) (hi : X.N[i]? = some x := by rfl) (hx : Loc X.env.scope x := by first | exact Or.inl rfl | exact Or.inr rfl)
    (hs : swapsWith e (some (.Name x p')) pos.line X.env = pure false := by rfl) (hf : X.fn x = true ∨ X.env.scope.names.lookup x = some .local := by first | exact .inl rfl | exact .inr rfl) : J1 X (.Assign [.Name x p'] e pos) ρ D := fun C F σ H E r k =>
  r1_of (ps_set hN hi hx re_pe hs hf) (h C F σ H _ r fun d ρ1 v F1 H1 q e1 r1 i1 => k.nx _ _ F1 H1 q e1 (r1.setVal i1))
theorem t_asgN (i : Nat) {p' : Pos} (h : JN X e ρ fun d ρ1 => D.nx (ρ1.set i (.own none d))) (hN : X.N.Nodup) (hi : X.N[i]? = some x := by rfl) (hx : Loc X.env.scope x := by first | exact Or.inl rfl | exact Or.inr rfl)
    (hs : swapsWith e (some (.Name x p')) pos.line X.env = pure false := by rfl) (hf : X.fn x = true ∨ X.env.scope.names.lookup x = some .local := by first | exact .inl rfl | exact .inr rfl) : J1 X (.Assign [.Name x p'] e pos) ρ D := fun C F σ H E r k =>
  r1_of (ps_set hN hi hx re_pe hs hf) (h C F σ H _ r fun d ρ1 p F1 H1 q e1 r1 hF h0 hT ht hn => k.nx _ _ F1 H1 q e1 (r1.setOwn hF h0 ht hn hT))
theorem t_asgG {tg : Expr} (h : JE X e ρ fun d ρ1 => JG X tg d ρ1 D.nx) (hs : swapsWithSole [tg] e pos.line X.env = pure false := by rfl) (hw : swappedStores [tg] e X.env = pure none := by rfl)
    (h1 : (assignEach [tg] X.env).map (·.2) = [assign tg X.env] := by rfl) : J1 X (.Assign [tg] e pos) ρ D := fun C F σ H E r k =>
  r1_of (ps_asg re_pe rg_pg hs hw h1) (h C F σ H _ r fun d ρ1 v F1 H1 q e1 r1 i1 => q C F1 σ H1 v _ r1 i1 fun ρ2 σ2 F2 H2 q2 e2 r2 => k.nx _ _ F2 H2 q2 (e1.trans e2) r2)
theorem t_expr (h : JE X e ρ fun _ ρ1 => D.nx ρ1) (hs : swapsWith e none pos.line X.env = pure false := by rfl) : J1 X (.Expr e pos) ρ D := fun C F σ H E r k =>
  r1_of (ps_expr re_pe hs) (h C F σ H _ r fun d ρ1 v F1 H1 q e1 r1 i1 => k.nx _ _ F1 H1 q e1 r1)
theorem t_ret (h : JE X e ρ D.rt) : J1 X (.Return (some e) pos) ρ D := fun C F σ H E r k =>
  r1_of (ps_ret re_pe) (h C F σ H _ r fun d ρ1 v F1 H1 q e1 r1 i1 => k.rt d ρ1 σ v F1 H1 q e1 r1 i1)
theorem t_if {tt ff : List Stmt} (h : JT X c ρ fun b ρ1 => (b = true → JS X tt ρ1 D) ∧ (b = false → JS X ff ρ1 D)) : J1 X (.If c tt ff pos) ρ D := fun C F σ H E r k => by
  refine r1_of (ps_if rt_pt rs_pss rs_pss) (h C F σ H _ r fun b ρ1 F1 H1 ⟨q1, q2⟩ e1 r1 => ?_)
  cases b with
  | true => exact iteT (q1 rfl C F1 σ H1 E r1 (k.mono e1))
  | false => exact iteF (q2 rfl C F1 σ H1 E r1 (k.mono e1))
theorem t_never (h : False) : J1 X st ρ D := h.elim
theorem t_pass (q : D.nx ρ) : J1 X (.Pass pos) ρ D := fun C F σ H E r k => r1_of ps_pass (k.nx ρ σ F H q (Same.refl F) r)

/-! ### what a name of ours holds is written -/
theorem nm_pe (i : Nat) (hN : X.N[i]? = some x) (hv : Vis X.env.scope x) (hd : (x == ("__debug__" : Str)) = false) (hcd : (x == ("__classdict__" : Str)) = false) {σ : L2.St} {H : Hp} {Q : VK} {v : V} (h : σ[i]? = some (some v)) (q : Q v H) : RE X (.Name x pos) σ H Q :=
  re_of (pe_var hN hv hd hcd) ⟨v, h, q⟩
/-- o[k] = v by data -/
def WD (X : Cx) (c dk d : Dt) (R : Dt → Prop) : Prop := ∀ (C : Run) (F : Hp) (ρ : Env) (σ : L2.St) (H : Hp) (a : Addr) (vk v : V) (Q : Hp → Prop), Rep X.prog X.w C F ρ σ H → Top X.prog X.w F H c a → F a = none → Is F dk vk → Is F d v →
  (∀ c' o, R c' → Top X.prog X.w F (upd H a o) c' a → Q (upd H a o)) → ∃ t, PSet X t ∧ t (.ref a) vk v H Q
theorem set_any : PSet X (fun o i v H Q => ∃ t, PSet X t ∧ t o i v H Q) := fun pins s σ H o i v ov iv u Q I ro ri rv ⟨t, h, q⟩ => h pins s σ H o i v ov iv u Q I ro ri rv q
theorem t_sub (i : Nat) {kx : Expr} {p1 p2 : Pos} (h : JE X e ρ fun d ρ1 => ∃ k1 c1, ρ1[i]? = some (.own k1 c1) ∧ JE X kx ρ1 fun dk ρ2 => ∃ k0 c, ρ2[i]? = some (.own k0 c) ∧ WD X c dk d fun c' => D.nx (ρ2.set i (.own k0 c')))
    (hN : X.N[i]? = some x := by rfl) (hv : Vis X.env.scope x := by first | exact Or.inl rfl | exact Or.inr (Or.inl rfl) | exact Or.inr (Or.inr rfl))
    (hd : (x == ("__debug__" : Str)) = false := by decide) (hcd : (x == ("__classdict__" : Str)) = false := by decide)
    (ha : ∀ v, assign (.Subscript (.Name x p1) kx p2) X.env v = (do
      let ov ← holding [v] (eval (.Name x p1) X.env)
      let iv ← holding [v, ov] (eval kx X.env)
      standAt p2
      holding [v, ov, iv] (setItem ov iv v)
      release [v, ov, iv] []) := by intro _; rfl)
    (hs : swapsWithSole [.Subscript (.Name x p1) kx p2] e pos.line X.env = pure false := by rfl) (hw : swappedStores [.Subscript (.Name x p1) kx p2] e X.env = pure none := by rfl)
    (h1 : (assignEach [.Subscript (.Name x p1) kx p2] X.env).map (·.2) = [assign (.Subscript (.Name x p1) kx p2) X.env] := by rfl) : J1 X (.Assign [.Subscript (.Name x p1) kx p2] e pos) ρ D := fun C F σ H E r k => by
  refine r1_of (ps_asg re_pe (pg_sub (pe_var (i := i) hN hv hd hcd) re_pe set_any ha) hs hw h1) ?_
  refine h C F σ H _ r fun d ρ1 v F1 H1 ⟨k1, c1, g1, q1⟩ e1 r1 i1 => ?_
  obtain ⟨a, ea, _⟩ := r1.own g1
  refine ⟨.ref a, ea, ?_⟩
  refine q1 C F1 σ H1 _ r1 fun dk ρ2 vk F2 H2 ⟨k0, c, g, q2⟩ e2 r2 i2 => ?_
  obtain ⟨a', z1, hF, ht, _⟩ := r2.own g
  rw [ea] at z1; cases z1
  exact q2 C F2 ρ2 σ H2 a vk v _ r2 ht hF i2 (i1.mono e2) fun c' o q3 ht' => k.nx _ _ F2 _ q3 (e1.trans e2) (r2.write g ea ht')
theorem ixD {F : Hp} {ds : List Dt} {xs : List V} (h : IsAll F ds xs) {i : Int} {j : Nat} (e : ixN ds.length i = some j) : ixN xs.length i = some j := by rw [← h.length]; exact e
theorem wd_lst {ds : List Dt} {n : Int} {j : Nat} {d : Dt} {R : Dt → Prop} (hj : ixN ds.length n = some j) (q : R (.lst (ds.set j d))) : WD X (.lst ds) (.int n) d R := fun C F ρ σ H a vk v Q r ht hF i1 i2 k => by
  obtain ⟨xs, h1, h2⟩ := ht
  cases i1
  exact ⟨_, set_list, a, xs, n, j, rfl, rfl, h1, ixD h2 hj, k _ _ q ⟨_, upd_same, h2.set i2 j⟩⟩
theorem set_dict (hu : X.A.units + 1 < cLine) : PSet X (fun o i v H Q => ∃ a H', o = .ref a ∧ DPut H a i v H' ∧ Q H') := fun pins s σ H o i v ov iv u Q I ro ri rv ⟨a, H', e, g, q⟩ => by
  subst e
  cases ro
  exact d_setItem hu I g ri rv fun s' I' => ⟨H', I', q⟩
theorem wd_dK (hu : X.A.units + 64 < cLine) {ds : List (Key × Dt)} {kk : Key} {dk d : Dt} {R : Dt → Prop} (ek : keyD kk = dk) (hz : ds.length < sizeLine) (q : R (.dK (putD ds kk d))) : WD X (.dK ds) dk d R := fun C F ρ σ H a vk v Q r ht hF i1 i2 k => by
  obtain ⟨xs, h1, h2⟩ := ht
  cases key_v ek i1
  exact ⟨_, set_dict (hu1 hu), a, _, rfl, DPut.k h1 (by rw [← h2.length]; exact hz), k _ _ q ⟨_, upd_same, h2.put i2⟩⟩
theorem wd_dKi (hu : X.A.units + 64 < cLine) {ds : List (Key × Dt)} {n : Int} {d : Dt} {R : Dt → Prop} (hz : ds.length < sizeLine) (q : R (.dK (putD ds (.inl n) d))) : WD X (.dK ds) (.int n) d R := wd_dK hu (kk := .inl n) rfl hz q
theorem wd_dKs (hu : X.A.units + 64 < cLine) {ds : List (Key × Dt)} {n : Str} {d : Dt} {R : Dt → Prop} (hz : ds.length < sizeLine) (q : R (.dK (putD ds (.inr n) d))) : WD X (.dK ds) (.str n) d R := wd_dK hu (kk := .inr n) rfl hz q
theorem wd_dT (hu : X.A.units + 64 < cLine) {ds : List (List Key × Dt)} (ks : List Key) {es : List Dt} {d : Dt} {R : Dt → Prop} (ek : es = ks.map keyD) (hz : ds.length < sizeLine) (q : R (.dT (putD ds ks d))) : WD X (.dT ds) (.tup es) d R := fun C F ρ σ H a vk v Q r ht hF i1 i2 k => by
  obtain ⟨xs, h1, h2⟩ := ht
  subst ek
  cases i1 with
  | @tup b ys _ e3 i3 =>
    cases isAll_keys i3
    exact ⟨_, set_dict (hu1 hu), a, _, rfl, DPut.t h1 (r.part _ _ e3) (by rw [← h2.length]; exact hz), k _ _ q ⟨_, upd_same, h2.put i2⟩⟩
/-- x.append(e) -/
theorem t_append (i : Nat) {p1 apos cpos : Pos} {k1 : Option Nat} {c1 : Dt} (h0 : ρ[i]? = some (.own k1 c1)) (hl : ∃ ds, c1 = .lst ds) (h : JE X e ρ fun d ρ1 => ∃ k0 ds, ρ1[i]? = some (.own k0 (.lst ds)) ∧ ds.length < sizeLine ∧ D.nx (ρ1.set i (.own k0 (.lst (ds ++ [d])))))
    (hN : X.N[i]? = some x := by rfl) (hv : Vis X.env.scope x := by first | exact Or.inl rfl | exact Or.inr (Or.inl rfl) | exact Or.inr (Or.inr rfl))
    (hd : (x == ("__debug__" : Str)) = false := by decide) (hcd : (x == ("__classdict__" : Str)) = false := by decide)
    (hs : swapsWith (.Call (.Attribute (.Name x p1) "append" apos) [e] [] cpos) none pos.line X.env = pure false := by rfl)
    (hbase : attributeBase (.Name x p1) "append" X.env (eval (.Name x p1) X.env) = eval (.Name x p1) X.env := by rfl)
    (hfew : ((backTo cpos (starEach [e] X.env)).all (fun x => !x.1) && (backToKw cpos (keywordEach [] X.env)).all (fun x => x.1.isSome) && decide ([e].length + ([] : List Keyword).length + (if ([] : List Keyword).isEmpty then 0 else 1) < 30)) = true := by rfl)
    (hline : (apos.endLine == cpos.line) = true := by rfl) (hst : starEach [e] X.env = (false, eval e X.env) :: starEach [] X.env := by rfl) (hplain : (backTo cpos (starEach [] X.env)).any (·.1) = false := by rfl) :
    J1 X (.Expr (.Call (.Attribute (.Name x p1) "append" apos) [e] [] cpos) pos) ρ D := fun C F σ H E r k => by
  refine r1_of (ps_expr (pe_bm PySem.F.plainAttrs_list PySem.F.slot_list_append PySem.F.type_list_append mt_append (pe_var (i := i) hN hv hd hcd) (pa_cons re_pe pa_nil hst) hbase hfew hline hst hplain) hs) ?_
  obtain ⟨a, ea, _, ht, _⟩ := r.own h0
  obtain ⟨ds, rfl⟩ := hl
  obtain ⟨xs, h1, _⟩ := ht
  refine ⟨.ref a, ea, .inl ⟨rfl, xs, SqL.of h1⟩, ?_⟩
  refine h C F σ H _ r fun d ρ1 v F1 H1 ⟨k0, ds', g, hz, q⟩ e1 r1 i1 => ?_
  obtain ⟨a', z1, hF, ht, _⟩ := r1.own g
  rw [ea] at z1; cases z1
  obtain ⟨ys, h3, h4⟩ := ht
  refine ⟨a, ys, v, rfl, rfl, h3, by rw [← h4.length]; exact hz, ?_⟩
  exact k.nx _ _ F1 _ q e1 (r1.write g ea ⟨_, upd_same, h4.append (.cons i1 .nil)⟩)
/-- x.insert(n, e), n written -/
theorem t_insert0 (i : Nat) {p1 apos cpos p3 : Pos} {j3 : Nat} {k1 : Option Nat} {c1 : Dt} (h0 : ρ[i]? = some (.own k1 c1)) (hl : ∃ ds, c1 = .lst ds) (h : JE X e ρ fun d ρ1 => ∃ k0 ds, ρ1[i]? = some (.own k0 (.lst ds)) ∧ ds.length < sizeLine ∧ D.nx (ρ1.set i (.own k0 (.lst (d :: ds)))))
    (hN : X.N[i]? = some x := by rfl) (hv : Vis X.env.scope x := by first | exact Or.inl rfl | exact Or.inr (Or.inl rfl) | exact Or.inr (Or.inr rfl))
    (hd : (x == ("__debug__" : Str)) = false := by decide) (hcd : (x == ("__classdict__" : Str)) = false := by decide)
    (hs : swapsWith (.Call (.Attribute (.Name x p1) "insert" apos) [.Constant (.int 0) j3 p3, e] [] cpos) none pos.line X.env = pure false := by rfl)
    (hbase : attributeBase (.Name x p1) "insert" X.env (eval (.Name x p1) X.env) = eval (.Name x p1) X.env := by rfl)
    (hfew : ((backTo cpos (starEach [.Constant (.int 0) j3 p3, e] X.env)).all (fun x => !x.1) && (backToKw cpos (keywordEach [] X.env)).all (fun x => x.1.isSome) && decide ([.Constant (.int 0) j3 p3, e].length + ([] : List Keyword).length + (if ([] : List Keyword).isEmpty then 0 else 1) < 30)) = true := by rfl)
    (hline : (apos.endLine == cpos.line) = true := by rfl) (hst : starEach [.Constant (.int 0) j3 p3, e] X.env = (false, eval (.Constant (.int 0) j3 p3) X.env) :: starEach [e] X.env := by rfl) (hst2 : starEach [e] X.env = (false, eval e X.env) :: starEach [] X.env := by rfl) (hplain : (backTo cpos (starEach [e] X.env)).any (·.1) = false := by rfl) :
    J1 X (.Expr (.Call (.Attribute (.Name x p1) "insert" apos) [.Constant (.int 0) j3 p3, e] [] cpos) pos) ρ D := fun C F σ H E r k => by
  refine r1_of (ps_expr (pe_bm PySem.F.plainAttrs_list PySem.F.slot_list_insert PySem.F.type_list_insert mt_insert (pe_var (i := i) hN hv hd hcd) (pa_cons pe_int (pa_cons re_pe pa_nil hst2) hst) hbase hfew hline hst hplain) hs) ?_
  obtain ⟨a, ea, _, ht, _⟩ := r.own h0
  obtain ⟨ds, rfl⟩ := hl
  obtain ⟨xs, h1, _⟩ := ht
  refine ⟨.ref a, ea, .inl ⟨rfl, xs, SqL.of h1⟩, ?_⟩
  refine h C F σ H _ r fun d ρ1 v F1 H1 ⟨k0, ds', g, hz, q⟩ e1 r1 i1 => ?_
  obtain ⟨a', z1, hF, ht, _⟩ := r1.own g
  rw [ea] at z1; cases z1
  obtain ⟨ys, h3, h4⟩ := ht
  refine ⟨a, ys, 0, v, rfl, rfl, h3, by rw [← h4.length]; exact hz, by decide, by decide, ?_⟩
  exact k.nx _ _ F1 _ q e1 (r1.write g ea ⟨_, upd_same, .cons i1 h4⟩)
/-- x.reverse() -/
theorem t_reverse (i : Nat) {p1 apos cpos : Pos} {k0 : Option Nat} {ds : List Dt} (h0 : ρ[i]? = some (.own k0 (.lst ds))) (q : D.nx (ρ.set i (.own k0 (.lst ds.reverse))))
    (hN : X.N[i]? = some x := by rfl) (hv : Vis X.env.scope x := by first | exact Or.inl rfl | exact Or.inr (Or.inl rfl) | exact Or.inr (Or.inr rfl))
    (hd : (x == ("__debug__" : Str)) = false := by decide) (hcd : (x == ("__classdict__" : Str)) = false := by decide)
    (hs : swapsWith (.Call (.Attribute (.Name x p1) "reverse" apos) [] [] cpos) none pos.line X.env = pure false := by rfl)
    (hbase : attributeBase (.Name x p1) "reverse" X.env (eval (.Name x p1) X.env) = eval (.Name x p1) X.env := by rfl) (hline : (apos.endLine == cpos.line) = true := by rfl) :
    J1 X (.Expr (.Call (.Attribute (.Name x p1) "reverse" apos) [] [] cpos) pos) ρ D := fun C F σ H E r k => by
  refine r1_of (ps_expr (pe_bm0 PySem.F.plainAttrs_list PySem.F.slot_list_reverse PySem.F.type_list_reverse mt_reverse (pe_var (i := i) hN hv hd hcd) hbase hline) hs) ?_
  obtain ⟨a, ea, _, ht, _⟩ := r.own h0
  obtain ⟨xs, h1, h2⟩ := ht
  exact ⟨.ref a, ea, .inl ⟨rfl, xs, SqL.of h1⟩, a, xs, rfl, rfl, h1, k.nx _ _ F _ q (Same.refl F) (r.write h0 ea ⟨_, upd_same, h2.reverse⟩)⟩

/-! ### what is walked -/
/-- the iterator walks these -/
def ItIs (F : Hp) (J : It) (ds : List Dt) : Prop := ∀ H, Same F H → ∀ i, (i < ds.length → J.go i H ∧ ∀ v H', J.yld i H v H' → H' = H ∧ ∃ d, ds[i]? = some d ∧ Is F d v) ∧ (ds.length ≤ i → J.stop i H)
def JI (X : Cx) (tg iter : Expr) (ρ : Env) (R : List Dt → Env → Prop) : Prop := ∀ (C : Run) (F : Hp) (σ : L2.St) (H : Hp) (Q : It → Hp → Prop), Rep X.prog X.w C F ρ σ H →
  (∀ ds ρ' J F' H', R ds ρ' → Same F F' → Rep X.prog X.w C F' ρ' σ H' → ItIs F' J ds → Q J H') → ∃ wi, PI X tg iter wi ∧ wi σ H Q
theorem pi_any {tg iter : Expr} : PI X tg iter (fun σ H Q => ∃ wi, PI X tg iter wi ∧ wi σ H Q) := ⟨fun pins s σ H R I ⟨wi, h, q⟩ => h.run pins s σ H R I q⟩
theorem i_lst {tg : Expr} {R : List Dt → Env → Prop} (h : JE X e ρ fun d ρ' => ∃ ds, d = .lst ds ∧ R ds ρ') : JI X tg e ρ R := fun C F σ H Q r k => by
  refine ⟨_, pi_list re_pe, h C F σ H _ r fun d ρ1 v F1 H1 ⟨ds, ed, q⟩ e1 r1 i1 => ?_⟩
  subst ed
  cases i1 with
  | @lst a xs _ h1 h2 =>
    refine ⟨a, rfl, ⟨xs, SqL.of (r1.part _ _ h1)⟩, k ds ρ1 _ F1 H1 q e1 r1 fun H2 e2 i => ⟨fun hi => ?_, fun hi => ?_⟩⟩
    · have hx : xs[i]? = some (xs[i]'(by rw [← h2.length]; exact hi)) := List.getElem?_eq_getElem _
      refine ⟨⟨xs, _, SqL.of (e2 _ _ h1), hx⟩, fun v H' ⟨e3, y⟩ => ⟨e3, ?_⟩⟩
      exact h2.get' (y xs (SqL.of (e2 _ _ h1)))
    · exact ⟨xs, SqL.of (e2 _ _ h1), by rw [← h2.length]; exact hi⟩
theorem i_tup {tg : Expr} {R : List Dt → Env → Prop} (h : JE X e ρ fun d ρ' => ∃ ds, d = .tup ds ∧ R ds ρ') : JI X tg e ρ R := fun C F σ H Q r k => by
  refine ⟨_, pi_tup re_pe, h C F σ H _ r fun d ρ1 v F1 H1 ⟨ds, ed, q⟩ e1 r1 i1 => ?_⟩
  subst ed
  cases i1 with
  | @tup a xs _ h1 h2 =>
    refine ⟨a, rfl, ⟨xs, SqT.of (r1.part _ _ h1)⟩, k ds ρ1 _ F1 H1 q e1 r1 fun H2 e2 i => ⟨fun hi => ?_, fun hi => ?_⟩⟩
    · have hx : xs[i]? = some (xs[i]'(by rw [← h2.length]; exact hi)) := List.getElem?_eq_getElem _
      refine ⟨⟨xs, _, SqT.of (e2 _ _ h1), hx⟩, fun v H' ⟨e3, y⟩ => ⟨e3, ?_⟩⟩
      exact h2.get' (y xs (SqT.of (e2 _ _ h1)))
    · exact ⟨xs, SqT.of (e2 _ _ h1), by rw [← h2.length]; exact hi⟩
/-- lo, lo + c, .. (n of them) -/
def rng (lo c : Int) (n : Nat) : List Dt := (List.range n).map fun i => .int (lo + (i : Nat) * c)
theorem rng_len (lo c : Int) (n : Nat) : (rng lo c n).length = n := by simp [rng]
theorem rng_get {lo c : Int} {n i : Nat} (h : i < n) : (rng lo c n)[i]? = some (.int (lo + (i : Nat) * c)) := by simp [rng, List.getElem?_range h]
theorem itr_is {F : Hp} (lo : Int) (n : Nat) : ItIs F (Itr lo n) (rng lo 1 n) := fun H e i => by
  rw [rng_len]
  refine ⟨fun hi => ⟨hi, fun v H' ⟨e1, e2⟩ => ⟨e1, _, rng_get hi, ?_⟩⟩, fun hi => hi⟩
  subst e2
  rw [Int.mul_one]
  exact .int _
theorem itc_is {F : Hp} (lo c : Int) (n : Nat) : ItIs F (Itc lo c n) (rng lo c n) := fun H e i => by
  rw [rng_len]
  refine ⟨fun hi => ⟨hi, fun v H' ⟨e1, e2⟩ => ⟨e1, _, rng_get hi, ?_⟩⟩, fun hi => hi⟩
  subst e2
  exact .int _
theorem i_rng1 {tg : Expr} {p : Pos} {R : List Dt → Env → Prop} (hm : X.mg "range" = none) (h : JE X a ρ fun d ρ' => ∃ n, d = .int n ∧ (-(2 ^ 62) ≤ n ∧ n < 2 ^ 62) ∧ R (rng 0 1 n.toNat) ρ') (hg : Gl X "range" := by rfl)
    (hs : starEach [a] X.env = [(false, eval a X.env)] := by rfl) : JI X tg (.Call (.Name "range" p) [a] [] pos) ρ R := fun C F σ H Q r k => by
  refine ⟨_, pi_range1 hg hm (pa_cons re_pe pa_nil hs) hs, h C F σ H _ r fun d ρ1 v F1 H1 ⟨n, ed, hb, q⟩ e1 r1 i1 => ?_⟩
  subst ed
  cases i1
  exact ⟨n, rfl, hb.1, hb.2, k _ ρ1 _ F1 H1 q e1 r1 (itr_is 0 n.toNat)⟩
theorem i_rng2 {tg : Expr} {p : Pos} {R : List Dt → Env → Prop} (hm : X.mg "range" = none) (h : JE X a ρ fun d ρ1 => JE X b ρ1 fun d' ρ' => ∃ m n, d = .int m ∧ d' = .int n ∧ (-(2 ^ 62) ≤ m ∧ m < 2 ^ 62 ∧ -(2 ^ 62) ≤ n ∧ n < 2 ^ 62) ∧ R (rng m 1 (n - m).toNat) ρ') (hg : Gl X "range" := by rfl)
    (hs : starEach [a, b] X.env = [(false, eval a X.env), (false, eval b X.env)] := by rfl) (hs2 : starEach [b] X.env = [(false, eval b X.env)] := by rfl) : JI X tg (.Call (.Name "range" p) [a, b] [] pos) ρ R := fun C F σ H Q r k => by
  refine ⟨_, pi_range2 hg hm (pa_cons re_pe (pa_cons re_pe pa_nil hs2) (by rw [hs, hs2])) hs hs2, h C F σ H _ r fun d ρ1 v F1 H1 h1 e1 r1 i1 => ?_⟩
  refine h1 C F1 σ H1 _ r1 fun d' ρ2 v2 F2 H2 ⟨m, n, ed, ed', hb, q⟩ e2 r2 i2 => ?_
  subst ed ed'
  cases i1; cases i2
  exact ⟨m, n, rfl, hb, k _ ρ2 _ F2 H2 q (e1.trans e2) r2 (itr_is m _)⟩
/-- down to 0: range(m, -1, -1) -/
theorem i_rngDown {tg : Expr} {p p4 p5 p6 p7 : Pos} {j4 j6 : Nat} {R : List Dt → Env → Prop} (hm : X.mg "range" = none) (h : JE X a ρ fun d ρ' => ∃ m, d = .int m ∧ (-(2 ^ 62) ≤ m ∧ m < 2 ^ 62) ∧ R (rng m (-1) (m - (-1)).toNat) ρ') (hg : Gl X "range" := by rfl)
    (hs : starEach [a, .UnaryOp .USub (.Constant (.int 1) j4 p4) p5, .UnaryOp .USub (.Constant (.int 1) j6 p6) p7] X.env = (false, eval a X.env) :: starEach [.UnaryOp .USub (.Constant (.int 1) j4 p4) p5, .UnaryOp .USub (.Constant (.int 1) j6 p6) p7] X.env := by rfl)
    (hs2 : starEach [.UnaryOp .USub (.Constant (.int 1) j4 p4) p5, .UnaryOp .USub (.Constant (.int 1) j6 p6) p7] X.env = (false, eval (.UnaryOp .USub (.Constant (.int 1) j4 p4) p5) X.env) :: starEach [.UnaryOp .USub (.Constant (.int 1) j6 p6) p7] X.env := by rfl)
    (hs3 : starEach [.UnaryOp .USub (.Constant (.int 1) j6 p6) p7] X.env = (false, eval (.UnaryOp .USub (.Constant (.int 1) j6 p6) p7) X.env) :: starEach [] X.env := by rfl)
    (hpl : (backTo pos (starEach [.UnaryOp .USub (.Constant (.int 1) j4 p4) p5, .UnaryOp .USub (.Constant (.int 1) j6 p6) p7] X.env)).any (·.1) = false := by rfl) :
    JI X tg (.Call (.Name "range" p) [a, .UnaryOp .USub (.Constant (.int 1) j4 p4) p5, .UnaryOp .USub (.Constant (.int 1) j6 p6) p7] [] pos) ρ R := fun C F σ H Q r k => by
  refine ⟨_, pi_range3 hg hm (pa_cons re_pe (pa_cons (pe_un un_neg pe_int) (pa_cons (pe_un un_neg pe_int) pa_nil hs3) hs2) hs) hs hpl, h C F σ H _ r fun d ρ1 v F1 H1 ⟨m, ed, hb, q⟩ e1 r1 i1 => ?_⟩
  subst ed
  cases i1
  exact ⟨1, rfl, 1, rfl, m, -1, -1, (m - (-1)).toNat, rfl, RgC.neg hb.1 hb.2 (by decide) (by decide), k _ ρ1 _ F1 H1 q e1 r1 (itc_is m (-1) _)⟩

/-! ### for, while -/
theorem t_for {tg iter : Expr} (h : JI X tg iter ρ fun ds ρ1 => ∃ I : Nat → Env → Prop, I 0 ρ1 ∧ (∀ i d ρ', ds[i]? = some d → I i ρ' → JG X tg d ρ' fun ρ2 => JS X body ρ2 { nx := I (i + 1), rt := D.rt }) ∧ ∀ ρ', I ds.length ρ' → D.nx ρ')
    (hp : PassesOwn (model X.prog X.w) X.A X.env X.xe := by exact PassesOwn.never) (hc : X.calm = true := by rfl) (hs : ∀ x, foldedSetIterable iter X.env x = pure x := by intro _; rfl) : J1 X (.For tg iter body [] pos) ρ D := fun C F σ H E r k => by
  refine r1_of (ps_for hp hc pi_any rg_pg rs_pss hs) ?_
  refine h C F σ H _ r fun ds ρ1 J F1 H1 ⟨I, h0, hs, hd⟩ e1 r1 it => ?_
  refine ⟨fun i m σ' H' => m = ds.length - i ∧ i ≤ ds.length ∧ ∃ F' ρ', Same F1 F' ∧ Rep X.prog X.w C F' ρ' σ' H' ∧ I i ρ', ⟨ds.length, by simp, Nat.zero_le _, F1, ρ1, Same.refl F1, r1, h0⟩, ?_⟩
  rintro i m σ' H' ⟨rfl, hi, F2, ρ2, e2, r2, hI⟩
  by_cases hlt : i < ds.length
  · refine .inr ⟨((it H' (e2.trans r2.part) i).1 hlt).1, fun σ3 H3 => ∃ F3 ρ3, Same F1 F3 ∧ Rep X.prog X.w C F3 ρ3 σ3 H3 ∧ I (i + 1) ρ3, fun σ3 H3 ⟨F3, ρ3, a1, a2, a3⟩ => ⟨ds.length - (i + 1), by omega, rfl, hlt, F3, ρ3, a1, a2, a3⟩, fun v H3 y => ?_⟩
    obtain ⟨e3, d, hd', hv⟩ := ((it H' (e2.trans r2.part) i).1 hlt).2 v H3 y
    subst e3
    refine hs i d ρ2 hd' hI C F2 σ' _ v _ r2 (hv.mono e2) fun ρ4 σ4 F4 H4 q4 e4 r4 => ?_
    refine q4 C F4 σ4 H4 _ r4 ⟨fun ρ5 σ5 F5 H5 q5 e5 r5 => ⟨F5, ρ5, e2.trans (e4.trans e5), r5, q5⟩, fun d5 ρ5 σ5 v5 F5 H5 q5 e5 r5 i5 => k.rt d5 ρ5 σ5 v5 F5 H5 q5 (e1.trans (e2.trans (e4.trans e5))) r5 i5⟩
  · have e : i = ds.length := by omega
    subst e
    exact .inl ⟨(it H' (e2.trans r2.part) _).2 (Nat.le_refl _), k.nx ρ2 σ' F2 H' (hd ρ2 hI) (e1.trans e2) r2⟩
theorem t_while (I : Nat → Env → Prop) (h0 : ∃ m, I m ρ) (h : ∀ m ρ', I m ρ' → JT X c ρ' fun b ρ1 => (b = true → JS X body ρ1 { nx := fun ρ2 => ∃ m', m' < m ∧ I m' ρ2, rt := D.rt }) ∧ (b = false → D.nx ρ1))
    (hp : PassesOwn (model X.prog X.w) X.A X.env X.xe := by exact PassesOwn.never) : J1 X (.While c body [] pos) ρ D := fun C F σ H E r k => by
  refine r1_of (ps_while hp rt_pt rs_pss) ?_
  obtain ⟨m0, h0⟩ := h0
  refine ⟨fun m σ' H' => ∃ F' ρ', Same F F' ∧ Rep X.prog X.w C F' ρ' σ' H' ∧ I m ρ', ⟨m0, F, ρ, Same.refl F, r, h0⟩, ?_⟩
  rintro m σ' H' ⟨F2, ρ2, e2, r2, hI⟩
  refine h m ρ2 hI C F2 σ' H' _ r2 fun b ρ3 F3 H3 ⟨q1, q2⟩ e3 r3 => ?_
  cases b with
  | true =>
    refine iteT ⟨fun σ4 H4 => ∃ m', m' < m ∧ ∃ F4 ρ4, Same F F4 ∧ Rep X.prog X.w C F4 ρ4 σ4 H4 ∧ I m' ρ4, fun σ4 H4 z => z, ?_⟩
    exact q1 rfl C F3 σ' H3 _ r3 ⟨fun ρ5 σ5 F5 H5 ⟨m', hm, q5⟩ e5 r5 => ⟨m', hm, F5, ρ5, e2.trans (e3.trans e5), r5, q5⟩, fun d5 ρ5 σ5 v5 F5 H5 q5 e5 r5 i5 => k.rt d5 ρ5 σ5 v5 F5 H5 q5 (e2.trans (e3.trans e5)) r5 i5⟩
  | false => exact iteF (k.nx ρ3 σ' F3 H3 (q2 rfl) (e2.trans e3) r3)

/-! ### comprehensions -/
def unAt (ρ : Env) : List Nat → Env
  | [] => ρ
  | v :: vs => (unAt ρ vs).set v .un
theorem unAt_len (ρ : Env) : ∀ vs, (unAt ρ vs).length = ρ.length
  | [] => rfl
  | v :: vs => by rw [unAt, List.length_set, unAt_len ρ vs]
theorem unAt_rep {P : Program} {w : World} {C : Run} {F H : Hp} {σ : L2.St} (r : Rep P w C F ρ σ H) : ∀ vs, Rep P w C F (unAt ρ vs) (wipe σ vs) H
  | [] => r
  | v :: vs => (unAt_rep r vs).setUn none
/-- nothing is known at these -/
def UnIn (ρ : Env) (vs : List Nat) : Prop := ∀ v ∈ vs, ∀ s, ρ[v]? = some s → s = .un
theorem unAt_in (ρ : Env) : ∀ vs, UnIn (unAt ρ vs) vs
  | [] => fun v h => nomatch h
  | u :: vs => fun v h s e => by
    rw [unAt, List.getElem?_set] at e
    split at e
    · split at e
      · cases e; rfl
      · cases e
    · rcases List.mem_cons.mp h with h | h
      · exact absurd h.symm (by assumption)
      · exact unAt_in ρ vs v h s e
theorem wipe_out' {σ : L2.St} {i : Nat} : ∀ {vs : List Nat}, i ∉ vs → (wipe σ vs)[i]? = σ[i]?
  | [], _ => rfl
  | v :: vs, h => by
    rw [wipe, List.getElem?_set_ne (fun e => h (by rw [e]; exact List.mem_cons_self))]
    exact wipe_out' (fun z => h (List.mem_cons_of_mem _ z))
/-- the rest does not look at these -/
theorem rep_swap {P : Program} {w : World} {C : Run} {F H : Hp} {σ σ' : L2.St} {vs : List Nat} (r : Rep P w C F ρ σ H) (hu : UnIn ρ vs) (hl : σ'.length = σ.length) (h : ∀ i, i ∉ vs → σ'[i]? = σ[i]?) : Rep P w C F ρ σ' H := by
  have key : ∀ (i : Nat) (s : Slot), ρ[i]? = some s → s ≠ .un → σ'[i]? = σ[i]? := fun i s e ne => h i fun hm => ne (hu i hm s e)
  refine ⟨r.part, r.base, r.fresh, r.keep, r.mine, r.len.trans hl.symm, fun i s e => ?_, fun i j k c k' c' a h1 h2 h3 h4 => ?_, r.tmps, fun i k c a h1 h2 => ?_⟩
  · by_cases hs : s = .un
    · subst hs
      have hi : i < σ'.length := by
        rw [hl, ← r.len]
        by_cases q : i < ρ.length
        · exact q
        · rw [List.getElem?_eq_none (by simpa using q)] at e; cases e
      exact ⟨σ'[i], List.getElem?_eq_getElem hi, trivial⟩
    · rw [key i s e hs]
      exact r.slots i s e
  · rw [key i _ h1 (by simp)] at h3
    rw [key j _ h2 (by simp)] at h4
    exact r.inj i j k c k' c' a h1 h2 h3 h4
  · rw [key i _ h1 (by simp)] at h2
    exact r.held i k c a h1 h2
end
section
variable {X : Cx} {ρ : Env} {pos : Pos} {x : Str} {tg iter elt : Expr} {ifs : List Expr} {scope : Scope} {vs : List Nat}
def JTs (X : Cx) (ifs : List Expr) (ρ : Env) (R : Bool → Env → Prop) : Prop := ∀ (C : Run) (F : Hp) (σ : L2.St) (H : Hp) (Q : Bool → Hp → Prop), Rep X.prog X.w C F ρ σ H →
  (∀ b ρ' F' H', R b ρ' → Same F F' → Rep X.prog X.w C F' ρ' σ H' → Q b H') → ∃ t, PTs X ifs t ∧ t σ H Q
theorem ts_nil {R : Bool → Env → Prop} (q : R true ρ) : JTs X [] ρ R := fun C F σ H Q r k => ⟨_, pts_nil, k true ρ F H q (Same.refl F) r⟩
theorem ts_one {c : Expr} {R : Bool → Env → Prop} (h : JT X c ρ R) : JTs X [c] ρ R := fun C F σ H Q r k => ⟨_, pts_one rt_pt, h C F σ H Q r k⟩
theorem pts_any {ifs : List Expr} : PTs X ifs (fun σ H Q => ∃ t, PTs X ifs t ∧ t σ H Q) := ⟨fun pins s σ H Q I ⟨t, h, q⟩ => h.run pins s σ H Q I q⟩
/-- in a block: whatever its frame -/
def Bl (X : Cx) (scope : Scope) (p : Cx → Prop) : Prop := ∀ (s : Shared) (H : Hp) (C : Addr) (cl : List (Str × Addr)) (fp : List Addr), p (X.blk s H scope (compEnvC scope cl C X.env) fp)
/-- a block's target: its own names alone change -/
def JB (X : Cx) (tg : Expr) (d : Dt) (ρ : Env) (vs : List Nat) (R : Env → Prop) : Prop := ∀ (C : Run) (F : Hp) (σ : L2.St) (H : Hp) (v : V) (Q : L2.St → Hp → Prop), Rep X.prog X.w C F ρ σ H → Is F d v →
  (∀ ρ' σ' F' H', R ρ' → Same F F' → Rep X.prog X.w C F' ρ' σ' H' → wipe σ' vs = wipe σ vs → Q σ' H') → RG X tg v σ H Q
theorem wipe_get {σ : L2.St} {i : Nat} : ∀ {vs : List Nat}, (wipe σ vs)[i]? = if i ∈ vs then (if i < σ.length then some none else none) else σ[i]?
  | [] => by simp [wipe]
  | v :: vs => by
    rw [wipe, List.getElem?_set, wipe_length, wipe_get (vs := vs)]
    by_cases e : v = i
    · subst e; simp
    · have e' : ¬ i = v := fun z => e z.symm
      simp [e, e']
theorem wipe_set {σ : L2.St} {j : Nat} {ov : Option V} {vs : List Nat} (h : j ∈ vs) : wipe (σ.set j ov) vs = wipe σ vs := by
  apply List.ext_getElem?
  intro i
  rw [wipe_get, wipe_get, List.length_set]
  by_cases e : i ∈ vs
  · rw [if_pos e, if_pos e]
  · have ne : j ≠ i := fun z => e (z ▸ h)
    rw [if_neg e, if_neg e, List.getElem?_set_ne ne]
theorem wipe_wipe {σ : L2.St} {vs : List Nat} : wipe (wipe σ vs) vs = wipe σ vs := by
  apply List.ext_getElem?
  intro i
  rw [wipe_get, wipe_length, wipe_get]
  by_cases e : i ∈ vs
  · rw [if_pos e, if_pos e]
  · rw [if_neg e]
theorem b_nm (i : Nat) {d : Dt} {R : Env → Prop} (q : R (ρ.set i (.val d))) (hj : i ∈ vs) (hN : X.N.Nodup) (hi : X.N[i]? = some x := by rfl) (hx : Loc X.env.scope x := by first | exact Or.inl rfl | exact Or.inr rfl)
    (hf : X.fn x = true ∨ X.env.scope.names.lookup x = some .local := by first | exact .inl rfl | exact .inr rfl) : JB X (.Name x pos) d ρ vs R := fun C F σ H v Q r i1 k =>
  ⟨_, pg_name hN hi hx hf, k _ _ F H q (Same.refl F) (r.setVal i1) (wipe_set hj)⟩
/-- two names of a pair -/
theorem b_two (i j : Nat) {x y : Str} {p1 p2 : Pos} {n : Nat} {d1 d2 : Dt} {R : Env → Prop} (q : R ((ρ.set i (.val d1)).set j (.val d2))) (hi : i ∈ vs) (hj : j ∈ vs) (hN : X.N.Nodup) (hix : X.N[i]? = some x := by rfl) (hjy : X.N[j]? = some y := by rfl)
    (hx : Loc X.env.scope x := by first | exact Or.inl rfl | exact Or.inr rfl) (hy : Loc X.env.scope y := by first | exact Or.inl rfl | exact Or.inr rfl)
    (hfx : X.fn x = true ∨ X.env.scope.names.lookup x = some .local := by first | exact .inl rfl | exact .inr rfl) (hfy : X.fn y = true ∨ X.env.scope.names.lookup y = some .local := by first | exact .inl rfl | exact .inr rfl) (hc : X.calm = true := by rfl) :
    JB X (.Tuple [.Name x p1, .Name y p2] n pos) (.tup [d1, d2]) ρ vs R := fun C F σ H v Q r i1 k => by
  cases i1 with
  | @tup a xs _ h1 h2 =>
    cases h2 with
    | cons h2 h3 =>
      cases h3 with
      | cons h3 h4 =>
        cases h4
        refine ⟨_, pg_tup (n := 2) hc (pgs_cons (pg_name hN hix hx hfx) (pgs_cons (pg_name hN hjy hy hfy) pgs_nil)), a, _, rfl, SqT.of (r.part _ _ h1), rfl, _, _, rfl, _, _, rfl, rfl, ?_⟩
        exact k _ _ F H q (Same.refl F) ((r.setVal h2).setVal h3) (by rw [wipe_set hj, wipe_set hi])
/-- one turn: what it adds (or nothing), what the names hold behind it -/
def Turn1 (X : Cx) (scope : Scope) (tg elt : Expr) (ifs : List Expr) (vs : List Nat) (d : Dt) (ρ : Env) (K : Option Dt → Env → Prop) : Prop :=
  Bl X scope fun Y => JB Y tg d ρ vs fun ρ1 => Bl X scope fun Y => JTs Y ifs ρ1 fun b ρ2 => (b = true → Bl X scope fun Y => JE Y elt ρ2 fun y ρ3 => K (some y) ρ3) ∧ (b = false → K none ρ2)
/-- the list that is being made: kept besides -/
theorem Rep.tmpPut {P : Program} {w : World} {C : Run} {F H : Hp} {σ : L2.St} {p : Addr} (r : Rep P w C F ρ σ H) (o : HO) (h0 : C.H0 p = none) (hF : F p = none) (ho : p ∉ C.own) (hn : ∀ (i : Nat) (j : Option Nat) (c : Dt), ρ[i]? = some (.own j c) → σ[i]? ≠ some (some (.ref p))) :
    Rep P w { C with tmp := upd C.tmp p o } F ρ σ (upd H p o) := by
  refine ⟨fun b u h => ?_, r.base, r.fresh, fun a u h1 h2 => ?_, fun a h => ?_, r.len, fun i s h => ?_, r.inj, fun a u h => ?_, fun i k c a h1 h2 => ?_⟩
  · rw [upd_ne (ne_of_none h hF)]; exact r.part b u h
  · have : a ≠ p := fun e => by
      have h1 : C.H0 a = some u := h1
      rw [e, h0] at h1; cases h1
    rw [upd_ne this]; exact r.keep a u h1 h2
  · obtain ⟨m1, m2, m3⟩ := r.mine a h
    have : a ≠ p := fun e => ho (e ▸ h)
    exact ⟨m1, m2, by rw [upd_ne this]; exact m3⟩
  · obtain ⟨ov, h1, h2⟩ := r.slots i s h
    refine ⟨ov, h1, ?_⟩
    cases s with
    | un => trivial
    | val d => exact h2
    | own k c =>
      obtain ⟨a, e1, e2, e3, e4⟩ := h2
      have : a ≠ p := fun e => hn i k c h (by rw [h1, e1, e])
      refine ⟨a, e1, e2, e3.mono (Same.refl F) (by rw [upd_ne this]), ?_⟩
      cases k <;> exact e4
  · by_cases e : a = p
    · subst e
      have h : upd C.tmp a o a = some u := h
      rw [upd_same] at h
      exact ⟨by rw [upd_same]; exact h, hF, ho⟩
    · have h : upd C.tmp p o a = some u := h
      rw [upd_ne e] at h
      obtain ⟨m1, m2, m3⟩ := r.tmps a u h
      exact ⟨by rw [upd_ne e]; exact m1, m2, m3⟩
  · have : a ≠ p := fun e => hn i k c h1 (by rw [h2, e])
    show upd C.tmp p o a = none
    rw [upd_ne this]
    exact r.held i k c a h1 h2
theorem upd_off {C : Run} {p : Addr} {o o' : HO} : { ({ C with tmp := upd C.tmp p o } : Run) with tmp := upd (upd C.tmp p o) p o' } = { C with tmp := upd C.tmp p o' } := by rw [upd_upd]
/-- .. no more -/
theorem Rep.tmpDrop {P : Program} {w : World} {C : Run} {F H : Hp} {σ : L2.St} {p : Addr} {o : HO} (r : Rep P w { C with tmp := upd C.tmp p o } F ρ σ H) (hT : C.tmp p = none) : Rep P w C F ρ σ H := by
  refine ⟨r.part, r.base, r.fresh, r.keep, r.mine, r.len, fun i s h => ?_, r.inj, fun a u h => ?_, fun i k c a h1 h2 => ?_⟩
  · obtain ⟨ov, h1, h2⟩ := r.slots i s h
    refine ⟨ov, h1, ?_⟩
    cases s with
    | un => trivial
    | val d => exact h2
    | own k c =>
      obtain ⟨a, e1, e2, e3, e4⟩ := h2
      refine ⟨a, e1, e2, e3, ?_⟩
      cases k <;> exact e4
  · have : a ≠ p := fun e => by rw [e, hT] at h; cases h
    exact r.tmps a u (by show upd C.tmp p o a = _; rw [upd_ne this]; exact h)
  · have z : upd C.tmp p o a = none := r.held i k c a h1 h2
    by_cases e : a = p
    · rw [e]; exact hT
    · rw [upd_ne e] at z; exact z
theorem lc_rule {R : DP} (h : JI X tg iter ρ fun ds ρ1 => ∃ I : Nat → List Dt → Env → Prop, ds.length ≤ sizeLine ∧ I 0 [] (unAt ρ1 vs) ∧
      (∀ i d acc ρ', ds[i]? = some d → UnIn ρ' vs → I i acc ρ' → Turn1 X scope tg elt ifs vs d ρ' fun o ρ2 => I (i + 1) (acc ++ o.toList) (unAt ρ2 vs)) ∧ ∀ acc ρ', UnIn ρ' vs → I ds.length acc ρ' → R (.lst acc) ρ')
    {C : Run} {F : Hp} {σ : L2.St} {H : Hp} {Q : VK} (r : Rep X.prog X.w C F ρ σ H)
    (k : ∀ c ρ' p F' H', R c ρ' → Same F F' → Rep X.prog X.w C F' ρ' σ H' → F' p = none → C.H0 p = none → C.tmp p = none → Top X.prog X.w F' H' c p →
      (∀ (i : Nat) (j : Option Nat) (c : Dt), ρ'[i]? = some (.own j c) → σ[i]? ≠ some (some (.ref p))) → Q (.ref p) H') :
    tLc (fun σ H Q => ∃ wi, PI X tg iter wi ∧ wi σ H Q) (fun v σ H Q => ∀ (s : Shared) (H1 : Hp) (C : Addr) (cl : List (Str × Addr)) (fp : List Addr), RG (X.blk s H1 scope (compEnvC scope cl C X.env) fp) tg v σ H Q)
      (fun σ H Q => ∀ (s : Shared) (H1 : Hp) (C : Addr) (cl : List (Str × Addr)) (fp : List Addr), ∃ t, PTs (X.blk s H1 scope (compEnvC scope cl C X.env) fp) ifs t ∧ t σ H Q)
      (fun σ H Q => ∀ (s : Shared) (H1 : Hp) (C : Addr) (cl : List (Str × Addr)) (fp : List Addr), RE (X.blk s H1 scope (compEnvC scope cl C X.env) fp) elt σ H Q) vs σ H Q := by
  refine h C F σ H _ r fun ds ρ1 J F1 H1 ⟨I, hz, h0, hs, hd⟩ e1 r1 it p hp => ?_
  have hF1 := fresh_F r1.part hp
  have h00 := r1.fresh0 hp
  have hT := r1.freshT hp
  have hOwn : p ∉ C.own := fun m => (r1.mine p m).2.2 hp
  have hn1 : ∀ (i : Nat) (j : Option Nat) (c : Dt), (unAt ρ1 vs)[i]? = some (.own j c) → (wipe σ vs)[i]? ≠ some (some (.ref p)) := (unAt_rep r1 vs).notHeld hp
  have r2 := (unAt_rep r1 vs).tmpPut (.lst []) h00 hF1 hOwn hn1
  refine ⟨fun i m H' => m = ds.length - i ∧ i ≤ ds.length ∧ ∃ F' ρ' acc xs, Same F1 F' ∧ UnIn ρ' vs ∧ Rep X.prog X.w { C with tmp := upd C.tmp p (.lst xs) } F' ρ' (wipe σ vs) H' ∧ I i acc ρ' ∧ IsAll F' acc xs ∧ acc.length ≤ i,
    ⟨ds.length, by simp, Nat.zero_le _, F1, _, [], [], Same.refl F1, unAt_in ρ1 vs, r2, h0, .nil, Nat.le_refl _⟩, ?_⟩
  rintro i m H' ⟨rfl, hi, F2, ρ2, acc, xs, e2, hu, r3, hI, hacc, hlen⟩
  have hDp : H' p = some (.lst xs) ∧ F2 p = none := let z := r3.tmps p (.lst xs) upd_same; ⟨z.1, z.2.1⟩
  by_cases hlt : i < ds.length
  · have hit := it H' (e2.trans r3.part) i
    refine .inr ⟨(hit.1 hlt).1, fun H3 => ∃ F3 ρ3 acc3 xs3, Same F1 F3 ∧ UnIn ρ3 vs ∧ Rep X.prog X.w { C with tmp := upd C.tmp p (.lst xs3) } F3 ρ3 (wipe σ vs) H3 ∧ I (i + 1) acc3 ρ3 ∧ IsAll F3 acc3 xs3 ∧ acc3.length ≤ i + 1,
      fun H3 ⟨F3, ρ3, acc3, xs3, a1, a2, a3, a4, a5, a6⟩ => ⟨ds.length - (i + 1), by omega, rfl, hlt, F3, ρ3, acc3, xs3, a1, a2, a3, a4, a5, a6⟩, fun v H3 y => ?_⟩
    obtain ⟨e3, d, hd', hv⟩ := (hit.1 hlt).2 v H3 y
    subst e3
    have turn := hs i d acc ρ2 hd' hu hI
    intro s0 H0' C0 cl fp
    refine turn s0 H0' C0 cl fp { C with tmp := upd C.tmp p (.lst xs) } F2 (wipe σ vs) _ v _ r3 (hv.mono e2) fun ρ4 σ4 F4 H4 q4 e4 r4 hw4 => ⟨by rw [hw4, wipe_wipe], ?_⟩
    rw [wipe_wipe] at hw4
    intro s1 H1' C1 cl1 fp1
    refine q4 s1 H1' C1 cl1 fp1 _ F4 σ4 H4 _ r4 fun b ρ5 F5 H5 ⟨q5, q6⟩ e5 r5 => ?_
    have back : ∀ {ρ6 : Env} {F6 H6 : Hp} {xs6 : List V}, Rep X.prog X.w { C with tmp := upd C.tmp p (.lst xs6) } F6 ρ6 σ4 H6 → Rep X.prog X.w { C with tmp := upd C.tmp p (.lst xs6) } F6 (unAt ρ6 vs) (wipe σ vs) H6 := fun r6 => by
      have z := unAt_rep r6 vs
      rw [hw4] at z
      exact z
    cases b with
    | false =>
      refine iteF ⟨F5, unAt ρ5 vs, acc, xs, e2.trans (e4.trans e5), unAt_in ρ5 vs, back r5, ?_, hacc.mono (e4.trans e5), by omega⟩
      have z : I (i + 1) (acc ++ []) (unAt ρ5 vs) := q6 rfl
      rw [List.append_nil] at z
      exact z
    | true =>
      refine iteT ?_
      intro s2 H2' C2 cl2 fp2
      refine q5 rfl s2 H2' C2 cl2 fp2 _ F5 σ4 H5 _ r5 fun y ρ6 v6 F6 H6 q6 e6 r6 i6 => ?_
      obtain ⟨z1, z2, z3⟩ := r6.tmps p (.lst xs) upd_same
      refine ⟨xs, z1, by rw [← hacc.length]; omega, F6, unAt ρ6 vs, acc ++ [y], xs ++ [v6], e2.trans (e4.trans (e5.trans e6)), unAt_in ρ6 vs, ?_, q6, (hacc.mono (e4.trans (e5.trans e6))).append (.cons i6 .nil), by rw [List.length_append, List.length_singleton]; omega⟩
      have r7 := back r6
      have hn7 : ∀ (i : Nat) (j : Option Nat) (c : Dt), (unAt ρ6 vs)[i]? = some (.own j c) → (wipe σ vs)[i]? ≠ some (some (.ref p)) := fun i j c g z => by
        have w := r7.held i j c p g z
        have w : upd C.tmp p (.lst xs) p = none := w
        rw [upd_same] at w; cases w
      have r8 := r7.tmpPut (.lst (xs ++ [v6])) h00 z2 hOwn hn7
      rw [upd_off] at r8
      exact r8
  · have e : i = ds.length := by omega
    subst e
    refine .inl ⟨(it H' (e2.trans r3.part) _).2 (Nat.le_refl _), ?_⟩
    have hn3 : ∀ (i : Nat) (j : Option Nat) (c : Dt), ρ2[i]? = some (.own j c) → (wipe σ vs)[i]? ≠ some (some (.ref p)) := fun i j c g z => by
      have w := r3.held i j c p g z
      have w : upd C.tmp p (.lst xs) p = none := w
      rw [upd_same] at w; cases w
    have sw : ∀ i, i ∉ vs → σ[i]? = (wipe σ vs)[i]? := fun i h => (wipe_out' h).symm
    refine k (.lst acc) ρ2 p F2 H' (hd acc ρ2 hu hI) (e1.trans e2) (rep_swap (r3.tmpDrop hT) hu (wipe_length σ vs).symm sw) hDp.2 h00 hT ⟨xs, hDp.1, hacc⟩ fun i j c g z => ?_
    have ni : i ∉ vs := fun m => by cases hu i m _ g
    exact hn3 i j c g (by rw [← sw i ni]; exact z)
/-- a comprehension, as a new object -/
theorem n_lc (own : List (Str × Nat)) {R : DP} (h : JI X tg iter ρ fun ds ρ1 => ∃ I : Nat → List Dt → Env → Prop, ds.length ≤ sizeLine ∧ I 0 [] (unAt ρ1 (own.map (·.2))) ∧
      (∀ i d acc ρ', ds[i]? = some d → UnIn ρ' (own.map (·.2)) → I i acc ρ' → Turn1 X scope tg elt ifs (own.map (·.2)) d ρ' fun o ρ2 => I (i + 1) (acc ++ o.toList) (unAt ρ2 (own.map (·.2)))) ∧ ∀ acc ρ', UnIn ρ' (own.map (·.2)) → I ds.length acc ρ' → R (.lst acc) ρ')
    (hN : X.N.Nodup) (ok : BlkOk X.N X.env.scope scope own) (hc : X.calm = true := by rfl) (hs : ∀ x, foldedSetIterable iter X.env x = pure x := by intro _; rfl) : JN X (.ListComp elt [⟨tg, iter, ifs, 0⟩] scope pos) ρ R := fun C F σ H Q r k =>
  re_of (pe_lc (te := fun σ H Q => ∀ (s : Shared) (H1 : Hp) (C : Addr) (cl : List (Str × Addr)) (fp : List Addr), RE (X.blk s H1 scope (compEnvC scope cl C X.env) fp) elt σ H Q) hc hN pi_any ok
    (fun s H C cl fp => ⟨fun pins s' σ H v u Q I rv h => (h s _ C cl fp : RG _ _ _ _ _ _).elim fun t ⟨a, b⟩ => a.run pins s' σ H v u Q I rv b⟩)
    (fun s H C cl fp => ⟨fun pins s' σ H Q I h => (h s _ C cl fp).elim fun t ⟨a, b⟩ => a.run pins s' σ H Q I b⟩)
    (fun s H C cl fp => ⟨fun pins s' σ H Q I h => (h s _ C cl fp).run pins s' I⟩) hs) (lc_rule h r k)
end
end DL

set_option Elab.async false
set_option linter.all false
set_option maxRecDepth 100000
set_option autoImplicit false
/-! D5: what defs promise (by data), their calls. -/
namespace DL
open PySem PySem.Spec L2

inductive Arg where
  | val (d : Dt) | own (c : Dt)
/-- a def by data: of these arguments it is shown that R holds of what it gives, and of what the objects that it was handed hold then -/
abbrev FS := List Arg → (Dt → List Dt → Prop) → Prop
inductive ArgsOk (P : Program) (w : World) (F H : Hp) : List Arg → List V → List Addr → Prop
  | nil : ArgsOk P w F H [] [] []
  | val {d : Dt} {v : V} {as : List Arg} {vs : List V} {os : List Addr} : Is F d v → ArgsOk P w F H as vs os → ArgsOk P w F H (.val d :: as) (v :: vs) os
  | own {c : Dt} {a : Addr} {as : List Arg} {vs : List V} {os : List Addr} : F a = none → Top P w F H c a → a ∉ os → ArgsOk P w F H as vs os → ArgsOk P w F H (.own c :: as) (.ref a :: vs) (a :: os)
inductive TopAll (P : Program) (w : World) (F H : Hp) : List Dt → List Addr → Prop
  | nil : TopAll P w F H [] []
  | cons {c : Dt} {a : Addr} {cs : List Dt} {os : List Addr} : Top P w F H c a → TopAll P w F H cs os → TopAll P w F H (c :: cs) (a :: os)
def spD (P : Program) (w : World) (S : FS) : Sp := fun vs H Q _ => ∃ (F : Hp) (as : List Arg) (os : List Addr) (R : Dt → List Dt → Prop), Same F H ∧ ArgsOk P w F H as vs os ∧ S as R ∧
  ∀ d cs v F' H', R d cs → Same F F' → Same F' H' → (∀ a, F a = none → H a ≠ none → F' a = none) → (∀ a o, H a = some o → a ∉ os → H' a = some o) → Is F' d v → TopAll P w F' H' cs os → Q v H'
/-- a def that stands at a name of the module -/
structure DefOk (P : Program) (w : World) (K : PySem.W.Frag) (mg : Str → Option Value) (base : Heap) (x : Str) (k : Nat) (S : FS) : Prop where
  ex : ∃ (f : Addr) (fd : FuncData) (ps : List Str), FnOk P w K mg base CX0 k f fd ps (spD P w S) ∧ mg x = some (.ref f) ∧ PySem.W.keepIn K (.ref f) = true ∧ Binds K fd ps []

/-! ### at a def's entry -/
def slotsOf : Nat → List Arg → Env
  | _, [] => []
  | k, .val d :: r => .val d :: slotsOf k r
  | k, .own c :: r => .own (some k) c :: slotsOf (k + 1) r
def env0 (n : Nat) (as : List Arg) : Env := slotsOf 0 as ++ List.replicate (n - as.length) .un
/-- what the objects handed hold at the end -/
def outs : Nat → Nat → List Arg → Env → Option (List Dt)
  | _, _, [], _ => some []
  | k, i, .val _ :: r, ρ => outs k (i + 1) r ρ
  | k, i, .own _ :: r, ρ => match ρ[i]? with
    | some (.own (some j) c) => if j = k then (outs (k + 1) (i + 1) r ρ).map (c :: ·) else none
    | _ => none
section
variable {P : Program} {w : World} {F H : Hp}
theorem ArgsOk.lens {as : List Arg} {vs : List V} {os : List Addr} (h : ArgsOk P w F H as vs os) : as.length = vs.length := by
  induction h with
  | nil => rfl
  | val _ _ ih => exact congrArg (· + 1) ih
  | own _ _ _ _ ih => exact congrArg (· + 1) ih
theorem ArgsOk.mem {as : List Arg} {vs : List V} {os : List Addr} (h : ArgsOk P w F H as vs os) : ∀ a ∈ os, F a = none ∧ ∃ o, H a = some o := by
  induction h with
  | nil => intro a h; cases h
  | val _ _ ih => exact ih
  | own h1 h2 _ _ ih =>
    intro b hb
    rcases List.mem_cons.mp hb with rfl | hb
    · exact ⟨h1, h2.there⟩
    · exact ih b hb
theorem slotsOf_len : ∀ (k : Nat) (as : List Arg), (slotsOf k as).length = as.length
  | _, [] => rfl
  | k, .val _ :: r => congrArg (· + 1) (slotsOf_len k r)
  | k, .own _ :: r => congrArg (· + 1) (slotsOf_len (k + 1) r)
/-- the slots at the entry -/
theorem slotsOf_ok {C : Run} {as : List Arg} {vs : List V} {os : List Addr} (h : ArgsOk P w F H as vs os) : ∀ (k : Nat), (∀ j a, os[j]? = some a → C.own[k + j]? = some a) →
    ∀ (i : Nat) (s : Slot), (slotsOf k as)[i]? = some s → ∃ v, vs[i]? = some v ∧ SlotOk P w C F H s (some v) := by
  induction h with
  | nil => intro k _ i s e; simp [slotsOf] at e
  | @val d v as vs os h1 _ ih =>
    intro k ho i s e
    cases i with
    | zero =>
      have e : Slot.val d = s := by simpa [slotsOf] using e
      subst e
      exact ⟨v, rfl, v, rfl, h1⟩
    | succ i => exact ih k ho i s (by simpa [slotsOf] using e)
  | @own c a as vs os h1 h2 _ _ ih =>
    intro k ho i s e
    cases i with
    | zero =>
      have e : Slot.own (some k) c = s := by simpa [slotsOf] using e
      subst e
      exact ⟨.ref a, rfl, a, rfl, h1, h2, ho 0 a rfl⟩
    | succ i => exact ih (k + 1) (fun j b hb => by have := ho (j + 1) b (by simpa using hb); rwa [show k + 1 + j = k + (j + 1) by omega]) i s (by simpa [slotsOf] using e)
theorem slotsOf_inj {as : List Arg} {vs : List V} {os : List Addr} (h : ArgsOk P w F H as vs os) : ∀ (k : Nat) (i : Nat) (q : Option Nat) (c : Dt) (a : Addr), (slotsOf k as)[i]? = some (.own q c) → vs[i]? = some (.ref a) → a ∈ os := by
  induction h with
  | nil => intro k i q c a e; simp [slotsOf] at e
  | @val d v as vs os h1 _ ih =>
    intro k i q c a e1 e2
    cases i with
    | zero => simp [slotsOf] at e1
    | succ i => exact ih k i q c a (by simpa [slotsOf] using e1) (by simpa using e2)
  | @own c' b as vs os h1 h2 _ _ ih =>
    intro k i q c a e1 e2
    cases i with
    | zero =>
      have : b = a := by simpa using e2
      subst this; exact List.mem_cons_self
    | succ i => exact List.mem_cons_of_mem _ (ih (k + 1) i q c a (by simpa [slotsOf] using e1) (by simpa using e2))
theorem slotsOf_inj2 {as : List Arg} {vs : List V} {os : List Addr} (h : ArgsOk P w F H as vs os) : ∀ (k : Nat) (i j : Nat) (q : Option Nat) (c : Dt) (q' : Option Nat) (c' : Dt) (a : Addr), (slotsOf k as)[i]? = some (.own q c) → (slotsOf k as)[j]? = some (.own q' c') →
    vs[i]? = some (.ref a) → vs[j]? = some (.ref a) → i = j := by
  induction h with
  | nil => intro k i j q c q' c' a e; simp [slotsOf] at e
  | @val d v as vs os h1 _ ih =>
    intro k i j q c q' c' a e1 e2 e3 e4
    cases i with
    | zero => simp [slotsOf] at e1
    | succ i =>
      cases j with
      | zero => simp [slotsOf] at e2
      | succ j => exact congrArg (· + 1) (ih k i j q c q' c' a (by simpa [slotsOf] using e1) (by simpa [slotsOf] using e2) (by simpa using e3) (by simpa using e4))
  | @own c0 b as vs os h1 h2 hb h3 ih =>
    intro k i j q c q' c' a e1 e2 e3 e4
    cases i with
    | zero =>
      have eb : b = a := by simpa using e3
      cases j with
      | zero => rfl
      | succ j => exact absurd (eb ▸ slotsOf_inj h3 (k + 1) j q' c' a (by simpa [slotsOf] using e2) (by simpa using e4)) hb
    | succ i =>
      cases j with
      | zero =>
        have eb : b = a := by simpa using e4
        exact absurd (eb ▸ slotsOf_inj h3 (k + 1) i q c a (by simpa [slotsOf] using e1) (by simpa using e3)) hb
      | succ j => exact congrArg (· + 1) (ih (k + 1) i j q c q' c' a (by simpa [slotsOf] using e1) (by simpa [slotsOf] using e2) (by simpa using e3) (by simpa using e4))
theorem rep_start {N : List Str} {as : List Arg} {vs : List V} {os : List Addr} (hF : Same F H) (h : ArgsOk P w F H as vs os) (hl : vs.length ≤ N.length) : Rep P w ⟨F, H, os, fun _ => none⟩ F (env0 N.length as) (L2.start N vs) H := by
  have hlen := h.lens
  have hs : ∀ (i : Nat) (s : Slot), (env0 N.length as)[i]? = some s → (s = .un ∧ ∃ ov, (L2.start N vs)[i]? = some ov) ∨ ((slotsOf 0 as)[i]? = some s ∧ ∀ v, vs[i]? = some v → (L2.start N vs)[i]? = some (some v)) := fun i s e => by
    unfold env0 at e
    by_cases hi : i < as.length
    · rw [List.getElem?_append_left (by rw [slotsOf_len]; exact hi)] at e
      refine .inr ⟨e, fun v hv => ?_⟩
      unfold L2.start
      rw [List.getElem?_append_left (by rw [List.length_map, ← hlen]; exact hi), List.getElem?_map, hv]
      rfl
    · rw [List.getElem?_append_right (by rw [slotsOf_len]; omega), List.getElem?_replicate] at e
      split at e
      · cases e
        refine .inl ⟨rfl, ?_⟩
        rename_i hlt
        rw [slotsOf_len] at hlt
        have : i < (L2.start N vs).length := by unfold L2.start; rw [List.length_append, List.length_map, List.length_replicate]; omega
        exact ⟨_, List.getElem?_eq_getElem this⟩
      · cases e
  refine ⟨hF, Same.refl F, fun a h1 _ => h1, fun a o h1 _ => h1, fun a ha => ?_, ?_, fun i s e => ?_, fun i j k c k' c' a h1 h2 h3 h4 => ?_, fun a o z => ?_, fun _ _ _ _ _ _ => rfl⟩
  · obtain ⟨q1, o, q2⟩ := h.mem a ha
    have q3 : H a ≠ none := by rw [q2]; simp
    exact ⟨q1, q3, q3⟩
  · unfold env0 L2.start
    rw [List.length_append, List.length_append, slotsOf_len, List.length_replicate, List.length_map, List.length_replicate, hlen]
  · rcases hs i s e with ⟨rfl, ov, q⟩ | ⟨e', q⟩
    · exact ⟨ov, q, trivial⟩
    · obtain ⟨v, q1, q2⟩ := slotsOf_ok (C := ⟨F, H, os, fun _ => none⟩) h 0 (fun j a hj => by simpa using hj) i s e'
      exact ⟨some v, q v q1, q2⟩
  · rcases hs i _ h1 with ⟨e, _⟩ | ⟨e1, q1⟩
    · cases e
    rcases hs j _ h2 with ⟨e, _⟩ | ⟨e2, q2⟩
    · cases e
    have hv : ∀ (n : Nat) (s : Slot), (slotsOf 0 as)[n]? = some s → ∃ v, vs[n]? = some v := fun n s z => by
      obtain ⟨v, z1, _⟩ := slotsOf_ok (C := ⟨F, H, os, fun _ => none⟩) h 0 (fun j a hj => by simpa using hj) n s z
      exact ⟨v, z1⟩
    obtain ⟨v1, w1⟩ := hv i _ e1
    obtain ⟨v2, w2⟩ := hv j _ e2
    have z1 := q1 v1 w1
    have z2 := q2 v2 w2
    rw [h3] at z1; cases z1
    rw [h4] at z2; cases z2
    exact slotsOf_inj2 h 0 i j k c k' c' a e1 e2 w1 w2
  · have z : (none : Option HO) = some o := z
    cases z
theorem outs_top {C : Run} {ρ : Env} {σ : L2.St} {H' F' : Hp} (r : Rep P w C F' ρ σ H') {as : List Arg} {vs : List V} {os : List Addr} (h : ArgsOk P w F H as vs os) : ∀ (k i : Nat) (cs : List Dt), (∀ j a, os[j]? = some a → C.own[k + j]? = some a) → outs k i as ρ = some cs → TopAll P w F' H' cs os := by
  induction h with
  | nil => intro k i cs _ e; cases e; exact .nil
  | val _ _ ih => intro k i cs ho e; exact ih k (i + 1) cs ho e
  | @own c a as vs os h1 h2 _ _ ih =>
    intro k i cs ho e
    unfold outs at e
    split at e
    · rename_i j c' q
      split at e
      · rename_i ej
        subst ej
        cases q2 : outs (j + 1) (i + 1) as ρ with
        | none => rw [q2] at e; cases e
        | some ds =>
          rw [q2] at e
          cases e
          refine .cons ?_ (ih (j + 1) (i + 1) ds (fun n b hb => by have := ho (n + 1) b (by simpa using hb); rwa [show j + 1 + n = j + (n + 1) by omega]) q2)
          obtain ⟨b, z1, _, z3, z4⟩ := r.own q
          have z4 : C.own[j]? = some b := z4
          have z5 := ho 0 a rfl
          rw [Nat.add_zero, z4] at z5; cases z5
          exact z3
      · cases e
    · cases e
end
section
variable {P : Program} {w : World} {K : PySem.W.Frag} {mg : Str → Option Value} {base : Heap}
/-- THE RULE for a def, by data -/
theorem fn_D {x qual : Str} {st : Stmt} {f : Addr} {fd : FuncData} {N ps : List Str} {k : Nat} {S : FS} (Fu : Fun K x qual st f fd) (sc : FnScope N ps (defScope st)) (hlen : ∀ as R, S as R → as.length = ps.length)
    (hbody : ∀ (X : Cx) (cdv : Value) (A : Around) (outer : List PySem.Env) (s : Shared) (H : Hp) (E : XK) (as : List Arg) (R : Dt → List Dt → Prop), X = (cxOf CX0 P w K mg base N qual (defScope st) f cdv A outer s H E).nox → Room k X.A → S as R →
      JS (cxOf CX0 P w K mg base N qual (defScope st) f cdv A outer s H E).nox (defBody st) (env0 N.length as) { nx := fun ρ => ∃ cs, outs 0 0 as ρ = some cs ∧ R .non cs, rt := fun d ρ => ∃ cs, outs 0 0 as ρ = some cs ∧ R d cs }) : FnOk P w K mg base CX0 (k + 1) f fd ps (spD P w S) := by
  refine Fu.ok sc (fun vs H Q E ⟨F, as, os, R, h1, h2, h3, h4⟩ => by rw [← h2.lens]; exact hlen as R h3) fun cdv A outer s H vs Q E hr ⟨F, as, os, R, h1, h2, h3, h4⟩ => ?_
  refine ⟨_, rs_pss, ?_⟩
  have hl : vs.length ≤ N.length := by
    rw [← h2.lens, hlen as R h3]
    have := congrArg List.length sc.pre
    rw [List.length_take] at this
    omega
  have r := rep_start h1 h2 hl
  refine hbody _ cdv A outer s H E as R rfl hr h3 ⟨F, H, os, fun _ => none⟩ F (L2.start N vs) H _ r ⟨fun ρ' σ' F' H' ⟨cs, o, q⟩ e r' => ?_, fun d ρ' σ' v F' H' ⟨cs, o, q⟩ e r' i => ?_⟩
  · exact h4 .non cs .non F' H' q e r'.part r'.fresh r'.keep .non (outs_top r' h2 0 0 cs (fun j a hj => by simpa using hj) o)
  · exact h4 d cs v F' H' q e r'.part r'.fresh r'.keep i (outs_top r' h2 0 0 cs (fun j a hj => by simpa using hj) o)
theorem DefOk.mk' {x : Str} {k : Nat} {S : FS} {f : Addr} {fd : FuncData} {ps : List Str} (F : FnOk P w K mg base CX0 k f fd ps (spD P w S)) (hm : mg x = some (.ref f)) (hk : PySem.W.keepIn K (.ref f) = true) (hb : Binds K fd ps []) : DefOk P w K mg base x k S := ⟨f, fd, ps, F, hm, hk, hb⟩
theorem DefOk.imp {x : Str} {k : Nat} {S S' : FS} (h : DefOk P w K mg base x k S) (q : ∀ as R, S' as R → S as R) : DefOk P w K mg base x k S' := by
  obtain ⟨f, fd, ps, F, h1, h2, h3⟩ := h
  exact ⟨f, fd, ps, F.imp fun vs H Q E ⟨F, as, os, R, a1, a2, a3, a4⟩ => ⟨F, as, os, R, a1, a2, q as R a3, a4⟩, h1, h2, h3⟩
theorem DefOk.mono {x : Str} {j k : Nat} {S : FS} (h : DefOk P w K mg base x j S) (q : j ≤ k) : DefOk P w K mg base x k S := by
  obtain ⟨f, fd, ps, F, h1, h2, h3⟩ := h
  exact ⟨f, fd, ps, F.mono q, h1, h2, h3⟩
end

/-! ### a call -/
inductive AvAll (σ : L2.St) (F : Hp) : List AV → List V → Prop
  | nil : AvAll σ F [] []
  | cons {a : AV} {v : V} {as : List AV} {vs : List V} : AvIs σ F a v → AvAll σ F as vs → AvAll σ F (a :: as) (v :: vs)
theorem AvAll.mono {σ : L2.St} {F F' : Hp} (e : Same F F') {as : List AV} {vs : List V} (h : AvAll σ F as vs) : AvAll σ F' as vs := by
  induction h with
  | nil => exact .nil
  | cons h _ ih => exact .cons (h.mono e) ih
def JA (X : Cx) (es : List Expr) (ρ : Env) (R : List AV → Env → Prop) : Prop := ∀ (C : Run) (F : Hp) (σ : L2.St) (H : Hp) (Q : List V → Hp → Prop), Rep X.prog X.w C F ρ σ H →
  (∀ as ρ' vs F' H', R as ρ' → Same F F' → Rep X.prog X.w C F' ρ' σ H' → AvAll σ F' as vs → Q vs H') → RA X es σ H Q
/-- the arguments as they are at the call -/
def argsAt (ρ : Env) : List AV → Option (List Arg)
  | [] => some []
  | .dat d :: r => (argsAt ρ r).map (.val d :: ·)
  | .nam i :: r => match ρ[i]? with
    | some (.own _ c) => (argsAt ρ r).map (.own c :: ·)
    | _ => none
def namesOf : List AV → List Nat
  | [] => []
  | .dat _ :: r => namesOf r
  | .nam i :: r => i :: namesOf r
def setC (ρ : Env) (i : Nat) (c : Dt) : Env := match ρ[i]? with
  | some (.own k _) => ρ.set i (.own k c)
  | _ => ρ
def insN : Env → List Nat → List Dt → Env
  | ρ, i :: ns, c :: cs => insN (setC ρ i c) ns cs
  | ρ, _, _ => ρ
inductive Outs (P : Program) (w : World) (F H : Hp) (σ : L2.St) : List Nat → List Dt → List Addr → Prop
  | nil : Outs P w F H σ [] [] []
  | cons {i : Nat} {c : Dt} {a : Addr} {ns : List Nat} {cs : List Dt} {os : List Addr} : σ[i]? = some (some (.ref a)) → Top P w F H c a → Outs P w F H σ ns cs os → Outs P w F H σ (i :: ns) (c :: cs) (a :: os)
section
variable {P : Program} {w : World} {C : Run} {F F' H H' : Hp} {ρ : Env} {σ : L2.St}
theorem setC_len (ρ : Env) (i : Nat) (c : Dt) : (setC ρ i c).length = ρ.length := by
  unfold setC
  split
  · rw [List.length_set]
  · rfl
theorem insN_len : ∀ (ns : List Nat) (cs : List Dt) (ρ : Env), (insN ρ ns cs).length = ρ.length
  | [], _, _ => by unfold insN; rfl
  | _ :: _, [], _ => by unfold insN; rfl
  | i :: ns, c :: cs, ρ => by rw [insN, insN_len ns cs, setC_len]
theorem setC_get {i : Nat} {k : Option Nat} {c0 c : Dt} (h : ρ[i]? = some (.own k c0)) : setC ρ i c = ρ.set i (.own k c) := by
  unfold setC
  rw [h]
theorem insN_get {ns : List Nat} {cs : List Dt} {os : List Addr} (o : Outs P w F H σ ns cs os) : ∀ (ρ : Env), ns.Nodup → (∀ i ∈ ns, ∃ k c, ρ[i]? = some (.own k c)) → ∀ (j : Nat) (s : Slot), (insN ρ ns cs)[j]? = some s →
    (j ∉ ns ∧ ρ[j]? = some s) ∨ ∃ k c c0 a, j ∈ ns ∧ ρ[j]? = some (.own k c0) ∧ s = .own k c ∧ σ[j]? = some (some (.ref a)) ∧ Top P w F H c a := by
  induction o with
  | nil => intro ρ _ _ j s e; exact .inl ⟨by simp, e⟩
  | @cons i c a ns cs os h1 h2 _ ih =>
    intro ρ nd ho j s e
    obtain ⟨k, c0, g⟩ := ho i List.mem_cons_self
    have nd' := List.nodup_cons.mp nd
    rw [insN, setC_get g] at e
    have hi : i < ρ.length := by
      by_cases q : i < ρ.length
      · exact q
      · rw [List.getElem?_eq_none (by simpa using q)] at g; cases g
    rcases ih (ρ.set i (.own k c)) nd'.2 (fun n hn => by
      have ne : i ≠ n := fun z => nd'.1 (z ▸ hn)
      rw [List.getElem?_set_ne ne]
      exact ho n (List.mem_cons_of_mem _ hn)) j s e with ⟨m, q⟩ | ⟨k1, c1, c2, a1, m, q, es, h3, h4⟩
    · by_cases e2 : i = j
      · subst e2
        rw [List.getElem?_set_self hi] at q
        cases q
        exact .inr ⟨k, c, c0, a, List.mem_cons_self, g, rfl, h1, h2⟩
      · rw [List.getElem?_set_ne e2] at q
        refine .inl ⟨fun z => ?_, q⟩
        rcases List.mem_cons.mp z with z | z
        · exact e2 z.symm
        · exact m z
    · have ne : i ≠ j := fun z => nd'.1 (z ▸ m)
      rw [List.getElem?_set_ne ne] at q
      exact .inr ⟨k1, c1, c2, a1, List.mem_cons_of_mem _ m, q, es, h3, h4⟩
theorem args_ok (r : Rep P w C F ρ σ H) {avs : List AV} {vs : List V} (h : AvAll σ F avs vs) : ∀ as, argsAt ρ avs = some as → (namesOf avs).Nodup →
    ∃ os, ArgsOk P w F H as vs os ∧ (∀ i ∈ namesOf avs, ∃ k c, ρ[i]? = some (.own k c)) ∧ (∀ a ∈ os, ∃ i ∈ namesOf avs, σ[i]? = some (some (.ref a))) ∧ (∀ cs F' H', TopAll P w F' H' cs os → Outs P w F' H' σ (namesOf avs) cs os) := by
  induction h with
  | nil => intro as e _; cases e; exact ⟨[], .nil, fun i h => absurd (show i ∈ ([] : List Nat) from h) (by simp), fun a h => absurd h (by simp), fun cs F' H' t => by cases t; exact .nil⟩
  | @cons a v as' vs h1 _ ih =>
    intro as e nd
    cases a with
    | dat d =>
      have e : (argsAt ρ as').map (Arg.val d :: ·) = some as := e
      cases q : argsAt ρ as' with
      | none => rw [q] at e; cases e
      | some bs =>
        rw [q] at e; cases e
        obtain ⟨os, g1, g2, g3, g4⟩ := ih bs q nd
        exact ⟨os, .val h1 g1, g2, g3, g4⟩
    | nam i =>
      have e : (match ρ[i]? with | some (.own _ c) => (argsAt ρ as').map (Arg.own c :: ·) | _ => none) = some as := e
      have nd' : i ∉ namesOf as' ∧ (namesOf as').Nodup := List.nodup_cons.mp nd
      split at e
      · rename_i k c g
        cases q : argsAt ρ as' with
        | none => rw [q] at e; cases e
        | some bs =>
          rw [q] at e; cases e
          obtain ⟨os, g1, g2, g3, g4⟩ := ih bs q nd'.2
          obtain ⟨b, z1, z2, z3, _⟩ := r.own g
          have h1 : σ[i]? = some (some v) := h1
          rw [z1] at h1; cases h1
          refine ⟨b :: os, .own z2 z3 (fun hb => ?_) g1, fun j hj => ?_, fun a ha => ?_, fun cs F' H' t => ?_⟩
          · obtain ⟨j, hj, ej⟩ := g3 b hb
            obtain ⟨k', c', gj⟩ := g2 j hj
            exact nd'.1 ((r.inj i j k c k' c' b g gj z1 ej) ▸ hj)
          · rcases List.mem_cons.mp (show j ∈ i :: namesOf as' from hj) with rfl | hj
            · exact ⟨k, c, g⟩
            · exact g2 j hj
          · rcases List.mem_cons.mp ha with rfl | ha
            · exact ⟨i, List.mem_cons_self, z1⟩
            · obtain ⟨j, hj, ej⟩ := g3 a ha
              exact ⟨j, List.mem_cons_of_mem _ hj, ej⟩
          · cases t with
            | cons t1 t2 => exact .cons z1 t1 (g4 _ F' H' t2)
      · cases e
theorem rep_after (r : Rep P w C F ρ σ H) {ns : List Nat} {cs : List Dt} {os : List Addr} (hos : ∀ a ∈ os, ∃ i ∈ ns, σ[i]? = some (some (.ref a))) (hns : ∀ i ∈ ns, ∃ k c, ρ[i]? = some (.own k c)) (nd : ns.Nodup) (o : Outs P w F' H' σ ns cs os)
    (e : Same F F') (hp : Same F' H') (hf : ∀ a, F a = none → H a ≠ none → F' a = none) (hk : ∀ a u, H a = some u → a ∉ os → H' a = some u) : Rep P w C F' (insN ρ ns cs) σ H' := by
  -- the addresses of the names
  have own_os : ∀ {a : Addr}, a ∈ os → ∃ i k c, i ∈ ns ∧ ρ[i]? = some (.own k c) ∧ σ[i]? = some (some (.ref a)) := fun {a} ha => by
    obtain ⟨i, hi, ei⟩ := hos a ha
    obtain ⟨k, c, g⟩ := hns i hi
    exact ⟨i, k, c, hi, g, ei⟩
  have not_os : ∀ {a : Addr} {u : HO}, C.H0 a = some u → a ∉ C.own → a ∉ os := fun {a u} h1 h2 h3 => by
    obtain ⟨i, k, c, _, g, ei⟩ := own_os h3
    obtain ⟨b, z1, _, _, z4⟩ := r.own g
    rw [ei] at z1; cases z1
    cases k with
    | none => rw [show C.H0 a = none from z4] at h1; cases h1
    | some j => exact h2 (List.mem_of_getElem? (show C.own[j]? = some a from z4))
  have top_os : ∀ {ns : List Nat} {cs : List Dt} {os : List Addr}, Outs P w F' H' σ ns cs os → ∀ a ∈ os, ∃ u, H' a = some u := fun {ns cs os} o => by
    induction o with
    | nil => intro a h; cases h
    | cons _ h2 _ ih =>
      intro a ha
      rcases List.mem_cons.mp ha with rfl | ha
      · exact h2.there
      · exact ih a ha
  have back : ∀ {i : Nat} {k : Option Nat} {c : Dt}, (insN ρ ns cs)[i]? = some (.own k c) → ∃ c0, ρ[i]? = some (.own k c0) := fun {i k c} q => by
    rcases insN_get o ρ nd hns i _ q with ⟨_, q⟩ | ⟨k1, c1, c0, a, _, q, es, _⟩
    · exact ⟨c, q⟩
    · cases es; exact ⟨c0, q⟩
  refine ⟨hp, r.base.trans e, fun a h1 h2 => ?_, fun a u h1 h2 => hk a u (r.keep a u h1 h2) (not_os h1 h2), fun a ha => ?_, by rw [insN_len]; exact r.len, fun i s g => ?_, fun i j k c k' c' a h1 h2 h3 h4 => ?_, fun a u h => ?_, fun i k c a h1 h2 => ?_⟩
  · have hH : H a ≠ none := by
      by_cases m : a ∈ C.own
      · exact (r.mine a m).2.2
      · cases q : C.H0 a with
        | none => exact absurd q h2
        | some u => rw [r.keep a u q m]; simp
    exact hf a (r.fresh a h1 h2) hH
  · obtain ⟨m1, m2, m3⟩ := r.mine a ha
    refine ⟨m1, m2, ?_⟩
    by_cases q : a ∈ os
    · obtain ⟨u, z⟩ := top_os o a q
      rw [z]; simp
    · cases z : H a with
      | none => exact absurd z m3
      | some u => rw [hk a u z q]; simp
  · rcases insN_get o ρ nd hns i s g with ⟨ni, q⟩ | ⟨k1, c1, c0, a, hi, q, es, h3, h4⟩
    · obtain ⟨ov, g1, g2⟩ := r.slots i s q
      refine ⟨ov, g1, g2.grow e fun a c j es eo hFa => ?_⟩
      subst es
      obtain ⟨b, e1, _, e3, _⟩ := g2
      rw [eo] at e1; cases e1
      obtain ⟨u, hu⟩ := e3.there
      have no : a ∉ os := fun z => by
        obtain ⟨i', k', c', hi', g', ei'⟩ := own_os z
        exact ni ((r.inj i i' j c k' c' a q g' (by rw [g1, eo]) ei') ▸ hi')
      exact ⟨hf a hFa (by rw [hu]; simp), by rw [hk a u hu no, hu]⟩
    · subst es
      obtain ⟨b, z1, z2, z3, z4⟩ := r.own q
      rw [h3] at z1; cases z1
      obtain ⟨u, hu⟩ := z3.there
      exact ⟨_, h3, a, rfl, hf a z2 (by rw [hu]; simp), h4, z4⟩
  · obtain ⟨c0, q1⟩ := back h1
    obtain ⟨c0', q2⟩ := back h2
    exact r.inj i j k c0 k' c0' a q1 q2 h3 h4
  · obtain ⟨m1, m2, m3⟩ := r.tmps a u h
    have no : a ∉ os := fun z => by
      obtain ⟨i', k', c', _, g', ei'⟩ := own_os z
      rw [r.held i' k' c' a g' ei'] at h; cases h
    exact ⟨hk a u m1 no, hf a m2 (by rw [m1]; simp), m3⟩
  · obtain ⟨c0, q1⟩ := back h1
    exact r.held i k c0 a q1 h2
end
section
variable {X : Cx} {ρ : Env} {R : DP} {pos p : Pos} {x : Str} {e : Expr} {es : List Expr}
theorem a_nil {R : List AV → Env → Prop} (q : R [] ρ) : JA X [] ρ R := fun C F σ H Q r k => ra_of pa_nil (k [] ρ [] F H q (Same.refl F) r .nil)
theorem a_cons {R : List AV → Env → Prop} (h : JV X e ρ fun a ρ1 => JA X es ρ1 fun as ρ2 => R (a :: as) ρ2) (hs : starEach (e :: es) X.env = (false, eval e X.env) :: starEach es X.env := by rfl) : JA X (e :: es) ρ R := fun C F σ H Q r k => by
  refine ra_of (pa_cons re_pe ra_pa hs) ?_
  refine h C F σ H _ r fun a ρ1 v F1 H1 h1 e1 r1 i1 => ?_
  refine h1 C F1 σ H1 _ r1 fun as ρ2 vs F2 H2 h2 e2 r2 i2 => ?_
  exact k (a :: as) ρ2 (v :: vs) F2 H2 h2 (e1.trans e2) r2 (.cons (i1.mono e2) i2)
theorem j_call {S : FS} {k : Nat} (Df : DefOk X.prog X.w X.K X.mg X.base x k S) (hr : Room k X.A)
    (h : JA X (e :: es) ρ fun avs ρ1 => ∃ as, argsAt ρ1 avs = some as ∧ (namesOf avs).Nodup ∧ S as fun d cs => R d (insN ρ1 (namesOf avs) cs)) (hg : Gl X x := by rfl)
    (hdb : (x == ("__debug__" : Str)) = false := by decide) (he : starEach (e :: es) X.env = (false, eval e X.env) :: starEach es X.env := by rfl) (hpl : (backTo pos (starEach es X.env)).any (·.1) = false := by rfl) :
    JE X (.Call (.Name x p) (e :: es) [] pos) ρ R := fun C F σ H Q r kk => by
  obtain ⟨f, fd, ps, Fo, hm, hk, hb⟩ := Df.ex
  refine re_of (pe_call (E := fun _ _ _ => False) Fo hr hg hm hk hb .nil (fun _ _ _ _ _ _ _ h => h.elim) ra_pa hdb he hpl) ?_
  refine h C F σ H _ r fun avs ρ1 vs F1 H1 ⟨as, ea, nd, hS⟩ e1 r1 i1 => ?_
  obtain ⟨os, g1, g2, g3, g4⟩ := args_ok r1 i1 as ea nd
  refine ⟨F1, as, os, _, r1.part, ?_, hS, fun d cs v F' H' q e2 hp hf hk' i t => ?_⟩
  · rw [List.append_nil]; exact g1
  · exact kk d _ v F' H' q (e1.trans e2) (rep_after r1 g3 g2 nd (g4 cs F' H' t) e2 hp hf hk') i
end
end DL

set_option Elab.async false
set_option linter.all false
set_option maxRecDepth 100000
set_option autoImplicit false
/-! D6: calls of built-ins by data; sorted. -/
namespace DL
open PySem PySem.Spec L2

/-! ### data as the library's -/
mutual
def Dt.py : Dt → PyData
  | .non => .none
  | .bl b => .bool b
  | .int i => .int i
  | .str x => .str x
  | .lst ds => .list (pys ds)
  | .tup ds => .tuple (pys ds)
  | .frz _ => .none
  | .dK _ => .none
  | .dT _ => .none
  | .dN _ => .none
def pys : List Dt → List PyData
  | [] => []
  | d :: ds => Dt.py d :: pys ds
end
mutual
/-- no dict within -/
def Dt.plain : Dt → Bool
  | .non => true
  | .bl _ => true
  | .int _ => true
  | .str _ => true
  | .lst ds => plains ds
  | .tup ds => plains ds
  | .frz _ => false
  | .dK _ => false
  | .dT _ => false
  | .dN _ => false
def plains : List Dt → Bool
  | [] => true
  | d :: ds => Dt.plain d && plains ds
end
theorem pys_eq : ∀ ds : List Dt, pys ds = ds.map Dt.py
  | [] => by simp [pys]
  | d :: ds => by simp [pys, pys_eq ds]
theorem plains_eq : ∀ ds : List Dt, plains ds = ds.all Dt.plain
  | [] => by simp [plains]
  | d :: ds => by simp [plains, plains_eq ds]
mutual
theorem is_dp {K : PySem.W.Frag} {F H : Hp} (e : Same F H) : ∀ {d : Dt} {v : V}, Is F d v → d.plain = true → Dp K H v d.py
  | _, _, .non, _ => by simpa [Dt.py] using Dp.non
  | _, _, .bl b, _ => by simpa [Dt.py] using Dp.bl b
  | _, _, .int i, _ => by simpa [Dt.py] using Dp.int i
  | _, _, .str x, _ => by simpa [Dt.py] using Dp.str x
  | _, _, .lst h q, p => by
    rw [Dt.py]
    exact .lst (SqL.of (e _ _ h)) (isAll_dp e q (by simpa [Dt.plain] using p))
  | _, _, .tup h q, p => by
    rw [Dt.py]
    exact .tup (SqT.of (e _ _ h)) (isAll_dp e q (by simpa [Dt.plain] using p))
  | _, _, .frz _ _, p => by simp [Dt.plain] at p
  | _, _, .dK _ _, p => by simp [Dt.plain] at p
  | _, _, .dT _ _, p => by simp [Dt.plain] at p
theorem isAll_dp {K : PySem.W.Frag} {F H : Hp} (e : Same F H) : ∀ {ds : List Dt} {vs : List V}, IsAll F ds vs → plains ds = true → DpAll K H vs (pys ds)
  | _, _, .nil, _ => by simpa [pys] using DpAll.nil
  | _, _, .cons h q, p => by
    rw [plains, Bool.and_eq_true] at p
    rw [pys]
    exact .cons (is_dp e h p.1) (isAll_dp e q p.2)
end

/-! ### calls of built-ins -/
inductive TVAll (P : Program) (w : World) (F H : Hp) : List Dt → List V → Prop
  | nil : TVAll P w F H [] []
  | cons {d : Dt} {v : V} {ds : List Dt} {vs : List V} : TV P w F H d v → TVAll P w F H ds vs → TVAll P w F H (d :: ds) (v :: vs)
def getAll (ρ : Env) : List AV → Option (List Dt)
  | [] => some []
  | a :: r => match a.get ρ, getAll ρ r with
    | some d, some ds => some (d :: ds)
    | _, _ => none
theorem AvAll.tvs {P : Program} {w : World} {C : Run} {F H : Hp} {ρ : Env} {σ : L2.St} (r : Rep P w C F ρ σ H) {as : List AV} {vs : List V} (h : AvAll σ F as vs) : ∀ ds, getAll ρ as = some ds → TVAll P w F H ds vs := by
  induction h with
  | nil => intro ds e; cases e; exact .nil
  | @cons a v as vs h _ ih =>
    intro ds e
    unfold getAll at e
    split at e
    · rename_i d ds' e1 e2
      cases e
      exact .cons (h.tv r e1) (ih ds' e2)
    · cases e
/-- the built-in f by data -/
def KD (X : Cx) (f : Value) (ds : List Dt) (R : Dt → Prop) : Prop := ∀ (C : Run) (F : Hp) (ρ : Env) (σ : L2.St) (H : Hp) (vs : List V) (Q : VK), Rep X.prog X.w C F ρ σ H → TVAll X.prog X.w F H ds vs →
  (∀ d v F' H', R d → Same F F' → Rep X.prog X.w C F' ρ σ H' → Is F' d v → Q v H') → ∃ r, CallR X f r ∧ r vs H Q
theorem call_any {X : Cx} {f : Value} : CallR X f (fun vs H Q => ∃ r, CallR X f r ∧ r vs H Q) := fun pins s σ H xs us Q I rv ⟨r, h, q⟩ => h pins s σ H xs us Q I rv q
section
variable {X : Cx} {ρ : Env} {R : DP} {pos p : Pos} {x : Str} {e : Expr} {es : List Expr} {T : String}
theorem j_blt (id : String) (hm : X.mg x = none) (hv : bootBuiltins x = some (.builtin id)) (h : JA X (e :: es) ρ fun avs ρ1 => ∃ ds, getAll ρ1 avs = some ds ∧ KD X (.builtin id) ds fun d => R d ρ1) (hg : Gl X x := by rfl) (hn : x ≠ "__name__" := by decide) (hdb : (x == ("__debug__" : Str)) = false := by decide)
    (he : starEach (e :: es) X.env = (false, eval e X.env) :: starEach es X.env := by rfl) (hpl : (backTo pos (starEach es X.env)).any (·.1) = false := by rfl) : JE X (.Call (.Name x p) (e :: es) [] pos) ρ R := fun C F σ H Q r k => by
  refine re_of (pe_callB call_any hg hm hv ra_pa hn hdb he hpl) ?_
  refine h C F σ H _ r fun avs ρ1 vs F1 H1 ⟨ds, g, q⟩ e1 r1 i1 => ?_
  exact q C F1 ρ1 σ H1 vs Q r1 (i1.tvs r1 ds g) fun d v F2 H2 q2 e2 r2 i2 => k d ρ1 v F2 H2 q2 (e1.trans e2) r2 i2
theorem j_ty (T : String) (hm : X.mg x = none) (hv : bootBuiltins x = some (.type T)) (h : JA X (e :: es) ρ fun avs ρ1 => ∃ ds, getAll ρ1 avs = some ds ∧ KD X (.type T) ds fun d => R d ρ1) (hg : Gl X x := by rfl) (hn : x ≠ "__name__" := by decide) (hdb : (x == ("__debug__" : Str)) = false := by decide)
    (he : starEach (e :: es) X.env = (false, eval e X.env) :: starEach es X.env := by rfl) (hpl : (backTo pos (starEach es X.env)).any (·.1) = false := by rfl) : JE X (.Call (.Name x p) (e :: es) [] pos) ρ R := fun C F σ H Q r k => by
  refine re_of (pe_callTy call_any hg hm hv ra_pa hn hdb he hpl) ?_
  refine h C F σ H _ r fun avs ρ1 vs F1 H1 ⟨ds, g, q⟩ e1 r1 i1 => ?_
  exact q C F1 ρ1 σ H1 vs Q r1 (i1.tvs r1 ds g) fun d v F2 H2 q2 e2 r2 i2 => k d ρ1 v F2 H2 q2 (e1.trans e2) r2 i2
theorem tv1 {P : Program} {w : World} {F H : Hp} {d : Dt} {vs : List V} (h : TVAll P w F H [d] vs) : ∃ v, vs = [v] ∧ TV P w F H d v := by
  cases h with
  | cons h t => cases t; exact ⟨_, rfl, h⟩
/-! len, tuple, list, any, sum, int -/
theorem kd_lenL {ds : List Dt} {R : Dt → Prop} (q : R (.int ds.length)) : KD X (.builtin "len") [.lst ds] R := fun C F ρ σ H vs Q r h k => by
  obtain ⟨v, rfl, g⟩ := tv1 h
  obtain ⟨a, xs, rfl, h1, h2⟩ := g.lst r.part
  exact ⟨_, call_len, _, xs.length, rfl, .inl ⟨xs, SqL.of h1, rfl⟩, by rw [← h2.length]; exact k _ _ F H q (Same.refl F) r (.int _)⟩
theorem kd_lenT {ds : List Dt} {R : Dt → Prop} (q : R (.int ds.length)) : KD X (.builtin "len") [.tup ds] R := fun C F ρ σ H vs Q r h k => by
  obtain ⟨v, rfl, g⟩ := tv1 h
  obtain ⟨a, xs, rfl, _, h1, h2⟩ := g.tup r.part
  exact ⟨_, call_len, _, xs.length, rfl, .inr ⟨xs, SqT.of h1, rfl⟩, by rw [← h2.length]; exact k _ _ F H q (Same.refl F) r (.int _)⟩
theorem kd_lenF {ds : List Dt} {R : Dt → Prop} (q : R (.int ds.length)) : KD X (.builtin "len") [.frz ds] R := fun C F ρ σ H vs Q r h k => by
  obtain ⟨v, rfl, g⟩ := tv1 h
  obtain ⟨a, o, xs, rfl, h1, h2⟩ := g.frz r.part
  exact ⟨_, call_len, _, xs.length, rfl, .inl ⟨xs, .inl (.inr ⟨o, h1⟩), rfl⟩, by rw [← h2.length]; exact k _ _ F H q (Same.refl F) r (.int _)⟩
theorem kd_lenS {z : Str} {R : Dt → Prop} (hz : z.length ≤ sizeLine) (q : R (.int z.length)) : KD X (.builtin "len") [.str z] R := fun C F ρ σ H vs Q r h k => by
  obtain ⟨v, rfl, g⟩ := tv1 h
  cases tv_str g
  exact ⟨_, call_len, _, z.length, rfl, ⟨hz, rfl⟩, k _ _ F H q (Same.refl F) r (.int _)⟩
theorem kd_tupL {ds : List Dt} {R : Dt → Prop} (q : R (.tup ds)) : KD X (.type "tuple") [.lst ds] R := fun C F ρ σ H vs Q r h k => by
  obtain ⟨v, rfl, g⟩ := tv1 h
  obtain ⟨a, xs, rfl, h1, h2⟩ := g.lst r.part
  refine ⟨_, call_tuple_of, a, xs, rfl, .inl ⟨SqL.of h1, fun l hl => ?_⟩⟩
  obtain ⟨r2, e2⟩ := r.new (.tup xs) hl
  exact k _ _ _ _ q e2 r2 (.tup upd_same (h2.mono e2))
theorem kd_lstL {ds : List Dt} {R : Dt → Prop} (q : R (.lst ds)) : KD X (.type "list") [.lst ds] R := fun C F ρ σ H vs Q r h k => by
  obtain ⟨v, rfl, g⟩ := tv1 h
  obtain ⟨a, xs, rfl, h1, h2⟩ := g.lst r.part
  refine ⟨_, call_list_of, a, xs, rfl, .inl (SqL.of h1), fun l hl => ?_⟩
  obtain ⟨r2, e2⟩ := r.new (.lst xs) hl
  exact k _ _ _ _ q e2 r2 (.lst upd_same (h2.mono e2))
theorem kd_any {bs : List Bool} {R : Dt → Prop} (q : R (.bl (bs.any id))) (hc : X.calm = true := by rfl) : KD X (.builtin "any") [.lst (bs.map Dt.bl)] R := fun C F ρ σ H vs Q r h k => by
  obtain ⟨v, rfl, g⟩ := tv1 h
  obtain ⟨a, xs, rfl, h1, h2⟩ := g.lst r.part
  cases isAll_bls h2
  exact ⟨_, cr_any hc, a, bs, rfl, SqL.of h1, k _ _ F H q (Same.refl F) r (.bl _)⟩
theorem kd_sum {ns : List Int} {R : Dt → Prop} (q : R (.int ns.sum)) (hc : X.calm = true := by rfl) : KD X (.builtin "sum") [.lst (ns.map Dt.int)] R := fun C F ρ σ H vs Q r h k => by
  obtain ⟨v, rfl, g⟩ := tv1 h
  obtain ⟨a, xs, rfl, h1, h2⟩ := g.lst r.part
  cases isAll_ints h2
  exact ⟨_, cr_sum hc, a, ns, rfl, SqL.of h1, k _ _ F H q (Same.refl F) r (.int _)⟩
theorem kd_intB {b : Bool} {R : Dt → Prop} (q : R (.int (if b then 1 else 0))) : KD X (.type "int") [.bl b] R := fun C F ρ σ H vs Q r h k => by
  obtain ⟨v, rfl, g⟩ := tv1 h
  cases tv_bl g
  exact ⟨_, call_int1, .inr ⟨b, rfl, k _ _ F H q (Same.refl F) r (.int _)⟩⟩

/-! ### sorted -/
theorem each_of {F : Hp} : ∀ {ds : List Dt} {xs : List V} {us : List Value}, IsAll F ds xs → Vals xs us → PySem.W.EachIs (fun (u : Value) (d : Dt) => ∃ x, RelV x u ∧ Is F d x) us ds
  | _, _, _, .nil, .nil => .nil
  | _, _, _, .cons h t, .cons r rs => .cons ⟨_, r, h⟩ (each_of t rs)
theorem of_each {F : Hp} : ∀ {us : List Value} {ds : List Dt}, PySem.W.EachIs (fun (u : Value) (d : Dt) => ∃ x, RelV x u ∧ Is F d x) us ds → ∃ xs, Vals xs us ∧ IsAll F ds xs
  | _, _, .nil => ⟨[], .nil, .nil⟩
  | _, _, .cons ⟨x, r, h⟩ t => by
    obtain ⟨xs, a, b⟩ := of_each t
    exact ⟨x :: xs, .cons r a, .cons h b⟩
/-- what may be sorted together -/
structure CanSort (ds : List Dt) : Prop where
  plain : ∀ d ∈ ds, d.plain = true
  alike : PySem.W.AllAlike (ds.map Dt.py)
  kind : PySem.W.Sortable (ds.map Dt.py)
  few : ds.length ≤ sizeLine
  flat : ∀ d ∈ ds, d.py.depth ≤ 8
abbrev sortD (ds : List Dt) : List Dt := ds.mergeSort (PySem.W.dataLe false Dt.py)
theorem dt_reads {pins : List (Addr × Obj)} {σ : L2.St} {F H : Hp} {s : Shared} (I : Inv X pins σ H s) (e : Same F H) {d : Dt} {v : V} {u : Value} (h : Is F d v) (p : d.plain = true) (r : RelV v u) : ∃ as, PySem.Reads s.heap u d.py as :=
  Dp.reads I d.py v u (is_dp e h p) r
def rSortD : List V → Hp → VK → Prop := fun xs H Q => ∃ (F : Hp) (ds : List Dt) (a : Addr) (vs : List V), xs = [.ref a] ∧ Same F H ∧ H a = some (.lst vs) ∧ IsAll F ds vs ∧ CanSort ds ∧ ∀ ys p, H p = none → IsAll F (sortD ds) ys → Q (.ref p) (upd H p (.lst ys))
theorem cr_sortD (hu : X.A.units + 64 < cLine) : CallR X (.builtin "sorted") rSortD := by
  intro pins s σ H xs us Q I rv h
  obtain ⟨F, ds, a, vs, rfl, e, ha, hi, hc, q⟩ := h
  rw [Vals.ref1 rv]
  obtain ⟨its, r, pl, hz⟩ := I.list (SqL.of ha)
  have ee := each_of hi r
  have er : PySem.W.EachIs (fun (u : Value) (d : Dt) => ∃ as, PySem.Reads s.heap u d.py as) its ds := by
    refine PySem.W.EachIs.of_zip ee.length fun p hp => ?_
    obtain ⟨x, rx, ix⟩ := ee.zip p hp
    exact dt_reads I e ix (hc.plain _ (List.of_mem_zip hp).2) rx
  refine PySem.W.sorted_data (enc := Dt.py) pl.isList ee er hc.alike hc.kind hc.few (fun b hb => ?_) fun out ho eo => ?_
  · have := hc.flat b hb
    omega
  · obtain ⟨ys, ry, iy⟩ := of_each eo
    obtain ⟨c, hcell⟩ := PyProof.Rows.sortedAll_at s.heap its out.toArray
    have hp : H (s.heap.objs.size + 1) = none := I.hok.fresh (Nat.le_succ _)
    refine ⟨.ref (s.heap.objs.size + 1), _, I.laid (t' := s.toks) (o := .lst ys) (fun b o eb => PyProof.Rows.sortedAll_old eb) (Nat.le_succ _) ⟨?_, out, c, ry, hcell⟩, rfl, q ys _ hp iy⟩
    rw [ry.length, ho]
    exact hc.few
theorem kd_sort (hu : X.A.units + 64 < cLine) {ds : List Dt} {R : Dt → Prop} (hc : CanSort ds) (q : R (.lst (sortD ds))) : KD X (.builtin "sorted") [.lst ds] R := fun C F ρ σ H vs Q r h k => by
  obtain ⟨v, rfl, g⟩ := tv1 h
  obtain ⟨a, xs, rfl, h1, h2⟩ := g.lst r.part
  refine ⟨_, cr_sortD hu, F, ds, a, xs, rfl, r.part, h1, h2, hc, fun ys p hp hi => ?_⟩
  obtain ⟨r2, e2⟩ := r.new (.lst ys) hp
  exact k _ _ _ _ q e2 r2 (.lst upd_same (hi.mono e2))
end
end DL

set_option Elab.async false
set_option linter.all false
set_option maxRecDepth 100000
set_option autoImplicit false
set_option maxHeartbeats 2000000
/-! D7: sorted of a dict, comparisons of data, name = [..], texts walked. -/
namespace DL
open PySem PySem.Spec L2

section
variable {X : Cx} {pins : List (Addr × Obj)} {σ : L2.St} {H F : Hp} {s : Shared} {Q : VK}
/-- behind the sort: the new list -/
theorem sort_fin {h' : Heap} {tk : Nat} (I1 : Inv X pins σ H { s with heap := h', toks := tk }) {us out : List Value} {ds : List Dt} (few : ds.length ≤ sizeLine) (ho : out.length = ds.length)
    (eo : PySem.W.EachIs (fun (u : Value) (d : Dt) => ∃ x, RelV x u ∧ Is F d x) out (sortD ds)) (q : ∀ ys p, H p = none → IsAll F (sortD ds) ys → Q (.ref p) (upd H p (.lst ys))) :
    EP X pins σ Q (.ref h'.objs.size) { s with heap := PyProof.Rows.sortedHeap (h'.push (PyProof.Rows.seqObj "list" us.toArray 0)) h'.objs.size us out.toArray, toks := tk } := by
  obtain ⟨ys, ry, iy⟩ := of_each eo
  have hoL : (h'.push (PyProof.Rows.seqObj "list" us.toArray 0)).get? h'.objs.size = some (PyProof.Rows.seqObj "list" us.toArray 0) := Heap.get?_push_size _ rfl
  obtain ⟨c, hcell⟩ := PyProof.Rows.sortedHeap_at (vs := us) (out := out.toArray) hoL
  have hp : H h'.objs.size = none := I1.hok.fresh (Nat.le_refl _)
  refine ⟨.ref h'.objs.size, _, I1.laid (t' := tk) (o := .lst ys) (fun b u eb => ?_) (Nat.le_refl _) ⟨?_, out, c, ry, hcell⟩, rfl, q ys _ hp iy⟩
  · have hb : b < h'.objs.size := Heap.lt_size eb
    rw [PyProof.Rows.sortedHeap_old (Nat.ne_of_lt hb) (by rw [PyProof.Rows.size_push']; exact Nat.lt_succ_of_lt hb)]
    exact Heap.get?_push_of_some _ eb
  · rw [ry.length, ho]
    exact few
mutual
theorem reads_there {h : Heap} : ∀ {v : Value} {d : PyData} {as : List Addr}, PySem.Reads h v d as → ∀ a ∈ as, ∃ o, h.get? a = some o
  | _, _, _, .none, a, m => by cases m
  | _, _, _, .bool _, a, m => by cases m
  | _, _, _, .int _ _, a, m => by cases m
  | _, _, _, .str _ _, a, m => by cases m
  | _, _, _, .list h1 _ _ r, a, m => by
    rcases List.mem_cons.mp m with rfl | m
    · exact ⟨_, h1⟩
    · exact readsAll_there r a m
  | _, _, _, .tuple _ _ _ r, a, m => readsAll_there r a m
  | _, _, _, .dict h1 _ _ r t, a, m => by
    rcases List.mem_append.mp m with m | m
    · rcases List.mem_cons.mp m with rfl | m
      · exact ⟨_, h1⟩
      · exact readsAll_there r a m
    · exact readsAll_there t a m
theorem readsAll_there {h : Heap} : ∀ {vs : List Value} {ds : List PyData} {as : List Addr}, PySem.ReadsAll h vs ds as → ∀ a ∈ as, ∃ o, h.get? a = some o
  | _, _, _, .nil, a, m => by cases m
  | _, _, _, .cons r t, a, m => by
    rcases List.mem_append.mp m with m | m
    · exact reads_there r a m
    · exact readsAll_there t a m
end
/-- sorted(d): its keys ds -/
theorem sorted_raw (hu : X.A.units + 64 < cLine) (hc : X.calm = true) {a : Addr} {es : Array DictEntry} {ep : Nat} (I : Inv X pins σ H s) (hraw : s.heap.DictRaw a es ep) (lo : (a == sysModules) = false) {ds : List Dt}
    (ek : PySem.W.EachIs (fun (u : Value) (d : Dt) => ∃ x, RelV x u ∧ Is F d x) (es.toList.map (·.key)) ds) (e : Same F H) (can : CanSort ds) (q : ∀ ys p, H p = none → IsAll F (sortD ds) ys → Q (.ref p) (upd H p (.lst ys))) :
    wpAny (model X.prog X.w) X.A (call (.builtin "sorted") [.ref a]) (EP X pins σ Q) X.xe s := by
  have hl : es.size = ds.length := by
    have := ek.length
    rwa [List.length_map, Array.length_toList] at this
  refine Calls.call_function_entry PyProof.Rows.kind_sorted PyProof.Rows.plain_sorted PyProof.Rows.entry_sorted (PyProof.Rows.args_sorted1 _) ?_
  unfold Builtin.«sorted»
  refine wpAny_bind (m := checkCount "sorted" 1 1 _) (wpAny_pure ?_)
  refine wpAny_bind (PySem.W.kdu_collect (A := X.A.in1) (PySem.KdlSrc.rawDict (es := es) (ep := ep) lo) (I.ok.hd hc) hraw (by rw [hl]; exact can.few) fun h' tk acc hk hacc => ?_)
  have ea : acc.toList = es.toList.map (·.key) := by
    apply List.ext_getElem?
    intro i
    by_cases hi : i < acc.size
    · obtain ⟨h2, e2⟩ := hacc.2 i _ (Array.getElem?_eq_getElem hi)
      rw [List.getElem?_map, Array.getElem?_toList, Array.getElem?_toList, Array.getElem?_eq_getElem hi, Array.getElem?_eq_getElem h2, e2]
      rfl
    · have h2 : ¬ i < es.size := by rw [← hacc.1]; exact hi
      rw [List.getElem?_eq_none (by simpa using hi), List.getElem?_eq_none (by simpa using h2)]
  have I1 : Inv X pins σ H { s with heap := h', toks := tk } := I.kept hk
  rw [ea]
  have hoL : (h'.push (PyProof.Rows.seqObj "list" (es.toList.map (·.key)).toArray 0)).get? h'.objs.size = some (PyProof.Rows.seqObj "list" (es.toList.map (·.key)).toArray 0) := Heap.get?_push_size _ rfl
  refine wpAny_bind (wpAny_newList ?_ (by rw [ek.length]; exact can.few))
  have I2 : Inv X pins σ H { s with heap := h'.push (PyProof.Rows.seqObj "list" (es.toList.map (·.key)).toArray 0), toks := tk } := I.kept fun b o eb => Heap.get?_push_of_some _ (hk b o eb)
  have hfree : ∀ b o, b = h'.objs.size → h'.get? b = some o → False := fun b o eb z => absurd (Heap.lt_size z) (by rw [eb]; exact Nat.lt_irrefl _)
  have er : PySem.W.EachIs (fun (u : Value) (d : Dt) => ∃ as, PySem.Reads (h'.push (PyProof.Rows.seqObj "list" (es.toList.map (·.key)).toArray 0)) u d.py as ∧ h'.objs.size ∉ as) (es.toList.map (·.key)) ds := by
    refine PySem.W.EachIs.of_zip ek.length fun p hp => ?_
    obtain ⟨x, rx, ix⟩ := ek.zip p hp
    obtain ⟨as, rd⟩ := dt_reads I1 e ix (can.plain _ (List.of_mem_zip hp).2) rx
    exact ⟨as, PyProof.Rows.Reads.keeps (fun b o z => Heap.get?_push_of_some _ z) rd, fun m => (reads_there rd _ m).elim fun o z => absurd (Heap.lt_size z) (Nat.lt_irrefl _)⟩
  refine wpAny_bind (wpAny_holding (PySem.W.list_sort_data (enc := Dt.py) (s := { s with heap := h'.push (PyProof.Rows.seqObj "list" (es.toList.map (·.key)).toArray 0), toks := tk }) hoL ek er can.alike can.kind can.few (fun b hb => ?_) fun out ho eo => ?_))
  · have := can.flat b hb
    show X.A.units + 1 + 1 + b.py.depth < cLine
    omega
  · exact wpAny_pure ⟨_, rfl, sort_fin I1 can.few ho eo q⟩
/-- the keys of a dict by ints and texts -/
theorem keys_each {F : Hp} : ∀ {kvs : List (Key × V)} {vs : List (Key × Value)} {ds : List (Key × Dt)} (us : List Value), KV kvs vs → IsK F ds kvs → us.length = vs.length →
    (∀ (i : Nat) (u : Value) (k : Key) (v : Value), us[i]? = some u → vs[i]? = some (k, v) → keyIs k u = true) → PySem.W.EachIs (fun (u : Value) (d : Dt) => ∃ x, RelV x u ∧ Is F d x) us (ds.map fun kv => keyD kv.1)
  | _, _, _, us, .nil, .nil, hl, _ => by
    cases us with
    | nil => exact .nil
    | cons _ _ => simp at hl
  | _, _, _, us, @Paired.cons _ _ _ (k, v0) q ps qs r rs, .cons h t, hl, hk => by
    cases us with
    | nil => simp at hl
    | cons u us =>
      have e1 : k = q.1 := r.1
      have z := hk 0 u k q.2 rfl (by rw [e1]; rfl)
      refine .cons ?_ (keys_each us rs t (by simpa using hl) fun i u k v a b => hk (i + 1) u k v (by simpa using a) (by simpa using b))
      rcases keyIs_shape z with ⟨i, tk, e2, rfl⟩ | ⟨x, tk, e2, rfl⟩
      · exact ⟨.int i, ⟨tk, rfl⟩, by show Is F (keyD k) (.int i); rw [e2]; exact .int i⟩
      · exact ⟨.str x, ⟨tk, rfl⟩, by show Is F (keyD k) (.str x); rw [e2]; exact .str x⟩
def rSortK : List V → Hp → VK → Prop := fun xs H Q => ∃ (F : Hp) (ds : List (Key × Dt)) (a : Addr) (kvs : List (Key × V)), xs = [.ref a] ∧ Same F H ∧ H a = some (.dK kvs) ∧ IsK F ds kvs ∧ CanSort (ds.map fun kv => keyD kv.1) ∧
  ∀ ys p, H p = none → IsAll F (sortD (ds.map fun kv => keyD kv.1)) ys → Q (.ref p) (upd H p (.lst ys))
theorem cr_sortK (hu : X.A.units + 64 < cLine) (hc : X.calm = true) : CallR X (.builtin "sorted") rSortK := by
  intro pins s σ H xs us Q I rv h
  obtain ⟨F, ds, a, kvs, rfl, e, ha, hi, can, q⟩ := h
  rw [Vals.ref1 rv]
  obtain ⟨z, lo, vs, rel, dd⟩ := dk_of I.hok ha
  obtain ⟨es, ep, hraw, hsz, hes⟩ := dd.raw
  refine sorted_raw hu hc I hraw lo (keys_each _ rel hi ?_ fun i u k v h1 h2 => ?_) e can q
  · rw [List.length_map, Array.length_toList, hsz]
  · rw [List.getElem?_map, Array.getElem?_toList] at h1
    by_cases hi : i < es.size
    · rw [Array.getElem?_eq_getElem hi] at h1
      cases h1
      exact (hes i hi k v h2).1
    · rw [Array.getElem?_eq_none (by simpa using hi)] at h1
      cases h1
end
section
variable {X : Cx} {ρ : Env} {R : DP} {D : DEnd} {pos p : Pos} {x : Str} {e : Expr} {es : List Expr} {T : String}
theorem kd_sortK (hu : X.A.units + 64 < cLine) {ds : List (Key × Dt)} {R : Dt → Prop} (hs : CanSort (ds.map fun kv => keyD kv.1)) (q : R (.lst (sortD (ds.map fun kv => keyD kv.1)))) (hc : X.calm = true := by rfl) : KD X (.builtin "sorted") [.dK ds] R := fun C F ρ σ H vs Q r h k => by
  obtain ⟨v, rfl, g⟩ := tv1 h
  obtain ⟨a, xs, rfl, h1, h2⟩ := g.dK r.part
  refine ⟨_, cr_sortK hu hc, F, ds, a, xs, rfl, r.part, h1, h2, hs, fun ys p hp hi => ?_⟩
  obtain ⟨r2, e2⟩ := r.new (.lst ys) hp
  exact k _ _ _ _ q e2 r2 (.lst upd_same (hi.mono e2))
end
end DL

set_option Elab.async false
set_option linter.all false
set_option maxRecDepth 100000
set_option autoImplicit false
set_option maxHeartbeats 2000000
/-! D8: dicts by nested keys. -/
namespace DL
open PySem PySem.Spec L2

mutual
theorem is_nested {P : Program} {w : World} {F H : Hp} {h : Heap} (ok : HOk P w H h) (e : Same F H) : ∀ {k : NestedKey} {v : V} {u : Value}, Is F (nkD k) v → RelV v u → NestedIs h k u
  | .none, v, u, i, r => by
    rw [nkD] at i
    cases i
    cases r
    exact .none
  | .num n, v, u, i, r => by
    rw [nkD] at i
    cases i
    obtain ⟨t, rfl⟩ := r
    exact .int n t
  | .text x, v, u, i, r => by
    rw [nkD] at i
    cases i
    obtain ⟨t, rfl⟩ := r
    exact .text x t
  | .tup ks, v, u, i, r => by
    rw [nkD] at i
    cases i with
    | @tup a xs _ h1 h2 =>
      cases r
      obtain ⟨_, its, rv, o, ho, hc, n, hd⟩ := ok a _ (e _ _ h1)
      exact .tup ho hc hd (by simpa using isAll_nested ok e h2 rv)
theorem isAll_nested {P : Program} {w : World} {F H : Hp} {h : Heap} (ok : HOk P w H h) (e : Same F H) : ∀ {ks : List NestedKey} {vs : List V} {us : List Value}, IsAll F (nkDs ks) vs → Vals vs us → NestedAll h ks us
  | [], vs, us, i, r => by
    rw [nkDs] at i
    cases i
    cases r
    exact .nil
  | k :: ks, vs, us, i, r => by
    rw [nkDs] at i
    cases i with
    | cons i1 i2 =>
      cases r with
      | cons r1 r2 => exact .cons (is_nested ok e i1 r1) (isAll_nested ok e i2 r2)
end
def valN (kvs : List (NestedKey × Dt)) (k : NestedKey) : Option Dt := valD kvs k
theorem NRel.val {F : Hp} (k : NestedKey) {ds : List (NestedKey × Dt)} {xs : List (NestedKey × Addr × Value)} (h : NRel F ds xs) : (∀ d, valD ds k = some d → ∃ p v, atKey xs k = some p ∧ RelV v p.2 ∧ Is F d v) ∧ (valD ds k = none → atKey xs k = none) := by
  induction h with
  | nil => exact ⟨fun d h => by simp [valD] at h, fun _ => rfl⟩
  | @cons p q ps qs r t ih =>
    obtain ⟨e1, e0, e2, v, e3, e4⟩ := r
    by_cases e : p.1 = k
    · have q1 : valD (p :: ps) k = some p.2 := by simp [valD, List.find?_cons, e]
      have q2 : atKey (q :: qs) k = some q.2 := by simp [atKey, List.find?_cons, ← e1, e]
      rw [q1, q2]
      exact ⟨fun d z => ⟨_, v, rfl, e3, by cases z; exact e4⟩, fun z => nomatch z⟩
    · have q1 : valD (p :: ps) k = valD ps k := by simp [valD, List.find?_cons, e]
      have q2 : atKey (q :: qs) k = atKey qs k := by simp [atKey, List.find?_cons, ← e1, e]
      rw [q1, q2]
      exact ih
theorem NRel.isSome {F : Hp} (k : NestedKey) {ds : List (NestedKey × Dt)} {xs : List (NestedKey × Addr × Value)} (h : NRel F ds xs) : (atKey xs k).isSome = (valD ds k).isSome := by
  obtain ⟨h1, h2⟩ := h.val k
  cases q : valD ds k with
  | none => rw [h2 q]; rfl
  | some d => obtain ⟨p, v, e, _⟩ := h1 d q; rw [e]; rfl
theorem NRel.put {F : Hp} {k : NestedKey} {b : Addr} {d : Dt} {v : V} {u : Value} (hk : k.depth ≤ 8) (ib : Is F (nkD k) (.ref b)) (r : RelV v u) (i : Is F d v) {ds : List (NestedKey × Dt)} {xs : List (NestedKey × Addr × Value)} (h : NRel F ds xs) : NRel F (putD ds k d) (storedH xs k b u) := by
  have e : (ds.any fun kv => decide (kv.1 = k)) = (atKey xs k).isSome := by rw [valD_any, h.isSome k]
  unfold putD storedH
  rw [e]
  have repl : ∀ {ds : List (NestedKey × Dt)} {xs : List (NestedKey × Addr × Value)}, NRel F ds xs → NRel F (ds.map fun kv => if kv.1 = k then (kv.1, d) else kv) (xs.map (putAt k u)) := fun {ds xs} h => by
    induction h with
    | nil => exact .nil
    | @cons p q ps qs r' t ih =>
      rw [List.map_cons, List.map_cons]
      refine .cons ?_ ih
      obtain ⟨e1, e0, e2, e3⟩ := r'
      unfold putAt
      by_cases z : p.1 = k
      · rw [if_pos z, if_pos (e1.symm.trans z)]; exact ⟨e1, e0, e2, v, r, i⟩
      · rw [if_neg z, if_neg (fun y => z (e1.trans y))]; exact ⟨e1, e0, e2, e3⟩
  have snoc : ∀ {ds : List (NestedKey × Dt)} {xs : List (NestedKey × Addr × Value)}, NRel F ds xs → NRel F (ds ++ [(k, d)]) (xs ++ [(k, b, u)]) := fun {ds xs} h => by
    induction h with
    | nil => exact .cons ⟨rfl, hk, ib, v, r, i⟩ .nil
    | cons r' t ih => exact .cons r' ih
  by_cases q : (atKey xs k).isSome = true
  · rw [if_pos q, if_pos q]; exact repl h
  · rw [if_neg q, if_neg q]; exact snoc h
theorem NRel.length {F : Hp} {ds : List (NestedKey × Dt)} {xs : List (NestedKey × Addr × Value)} (h : NRel F ds xs) : ds.length = xs.length := Paired.length h
section
variable {X : Cx} {pins : List (Addr × Obj)} {σ : L2.St} {H F : Hp} {s : Shared}
/-- the dict as it lies in the heap -/
theorem nobj_at (I : Inv X pins σ H s) (e : Same F H) {a : Addr} {ds : List (NestedKey × Dt)} {xs : List (NestedKey × Addr × Value)} (ha : H a = some (NObj X.prog X.w a xs)) (rel : NRel F ds xs) : (a == sysModules) = false ∧ s.heap.DictOfH (nestedKind X.prog X.w) a xs := by
  obtain ⟨⟨lo, o, es, ep, ho, hx, hd, he, hn⟩, _⟩ := I.hok a _ ha
  refine ⟨lo, o, es, ep, ho, hx, hd, he, fun x hx => ?_, hn⟩
  have key : ∀ {ds : List (NestedKey × Dt)} {xs : List (NestedKey × Addr × Value)}, NRel F ds xs → ∀ x ∈ xs, (nestedKind X.prog X.w).is s.heap x.1 x.2.1 := fun {ds xs} h => by
    induction h with
    | nil => intro x h; cases h
    | cons r t ih =>
      intro x hx
      rcases List.mem_cons.mp hx with rfl | hx
      · obtain ⟨e1, e0, e2, _⟩ := r
        rw [← e1]
        exact ⟨is_nested I.hok e e2 rfl, e0⟩
      · exact ih x hx
  exact key rel x hx
theorem nobj_ok {P : Program} {w : World} {H' : Hp} {h' : Heap} {a : Addr} {xs : List (NestedKey × Addr × Value)} (lo : (a == sysModules) = false) (dd : h'.DictOfH (nestedKind P w) a xs) : ObjOk P w H' h' a (NObj P w a xs) := by
  obtain ⟨o, es, ep, ho, hx, hd, he, _, hn⟩ := dd
  exact ⟨⟨lo, o, es, ep, ho, hx, hd, he, hn⟩, ⟨o, ho⟩, fun h1 h2 ⟨lo, o, es, ep, ho, z⟩ k => ⟨lo, o, es, ep, k o ho, z⟩⟩
theorem hu9 (hu : X.A.units + 64 < cLine) : (nestedKind X.prog X.w).room X.A.in1 := by
  show X.A.units + 1 + 8 < cLine
  omega
theorem key_is (I : Inv X pins σ H s) (e : Same F H) {k : NestedKey} {b : Addr} (hk : k.depth ≤ 8) (i : Is F (nkD k) (.ref b)) : (nestedKind X.prog X.w).is s.heap k b := ⟨is_nested I.hok e i rfl, hk⟩
/-! the rules by values -/
structure NKey (F : Hp) (k : NestedKey) (v : V) : Prop where
  is : Is F (nkD k) v
  deep : k.depth ≤ 8
  tup : ∃ ks, k = .tup ks
theorem NKey.ref {F : Hp} {k : NestedKey} {v : V} (h : NKey F k v) : ∃ b, v = .ref b ∧ Is F (nkD k) (.ref b) := by
  obtain ⟨ks, rfl⟩ := h.tup
  have q := h.is
  have q' := q
  rw [nkD] at q'
  cases q' with
  | tup _ _ => exact ⟨_, rfl, q⟩
theorem op_inN (hu : X.A.units + 64 < cLine) : OpR X (compareOp .In) (fun x y H Q => ∃ (F : Hp) (a : Addr) (k : NestedKey) (ds : List (NestedKey × Dt)) (xs : List (NestedKey × Addr × Value)), y = .ref a ∧ Same F H ∧ H a = some (NObj X.prog X.w a xs) ∧ NRel F ds xs ∧ NKey F k x ∧ Q (.bl (valD ds k).isSome) H) := by
  intro pins s σ H x y v u Q I rx ry ⟨F, a, k, ds, xs, ey, e, ha, rel, hk, q⟩
  subst ey
  cases ry
  obtain ⟨b, rfl, ib⟩ := hk.ref
  cases rx
  obtain ⟨lo, dd⟩ := nobj_at I e ha rel
  refine in_keyed (hu9 hu) (key_is I e hk.deep ib) lo ⟨xs, dd, rfl⟩ ?_
  rw [valueAt_pairsH, Option.isSome_map, rel.isSome k]
  exact ⟨.bl _, H, I.tok _, rfl, q⟩
theorem op_notinN (hu : X.A.units + 64 < cLine) : OpR X (compareOp .NotIn) (fun x y H Q => ∃ (F : Hp) (a : Addr) (k : NestedKey) (ds : List (NestedKey × Dt)) (xs : List (NestedKey × Addr × Value)), y = .ref a ∧ Same F H ∧ H a = some (NObj X.prog X.w a xs) ∧ NRel F ds xs ∧ NKey F k x ∧ Q (.bl (!(valD ds k).isSome)) H) := by
  intro pins s σ H x y v u Q I rx ry ⟨F, a, k, ds, xs, ey, e, ha, rel, hk, q⟩
  subst ey
  cases ry
  obtain ⟨b, rfl, ib⟩ := hk.ref
  cases rx
  obtain ⟨lo, dd⟩ := nobj_at I e ha rel
  refine notIn_keyed (hu9 hu) (key_is I e hk.deep ib) lo ⟨xs, dd, rfl⟩ ?_
  rw [valueAt_pairsH, Option.isSome_map, rel.isSome k]
  exact ⟨.bl _, H, I.tok _, rfl, q⟩
theorem ix_dN (hu : X.A.units + 64 < cLine) : IxR X (fun x y H Q => ∃ (F : Hp) (a : Addr) (k : NestedKey) (d : Dt) (ds : List (NestedKey × Dt)) (xs : List (NestedKey × Addr × Value)), x = .ref a ∧ Same F H ∧ H a = some (NObj X.prog X.w a xs) ∧ NRel F ds xs ∧ NKey F k y ∧ valD ds k = some d ∧ ∀ v, Is F d v → Q v H) := by
  intro value slice pins s σ H x y v u Q I rx ry ⟨F, a, k, d, ds, xs, ex, e, ha, rel, hk, hv, q⟩ hs
  subst ex
  cases rx
  obtain ⟨b, rfl, ib⟩ := hk.ref
  cases ry
  obtain ⟨lo, dd⟩ := nobj_at I e ha rel
  obtain ⟨p, z, e1, e2, e3⟩ := (rel.val k).1 d hv
  have hT : s.TypeIs (.ref a) "dict" := dd.typeIs
  unfold PyProof.Rows.subscriptTail
  refine wpAny_bind ?_
  rw [getitemInPython_of_ne hT.not_modules]
  refine wpAny_bind (wpAny_specialOf hT PySem.F.slot_dict_getitem.lookup ?_)
  have fin : wpAny (model X.prog X.w) X.A (subscripted slice false (.ref a) (.ref b)) (fun r s₃ => wpAny (model X.prog X.w) X.A (letTemporaryGo value (.ref a) r >>= fun _ => pure r) (EP X pins σ Q) X.xe s₃) X.xe s := by
    rw [hs]
    exact wpAny_operating (wpAny_mono (getItem_keyed (E := X.xe) (hu9 hu) (key_is I e hk.deep ib) ⟨xs, dd, rfl⟩ (by rw [valueAt_pairsH, e1]; rfl) (show EP X pins σ Q p.2 { s with toks := s.toks + (nestedKind X.prog X.w).draws k } from ⟨z, H, I.tok _, e2, q z e3⟩)) (fun r s₃ h₃ => wpAny_bind (wpAny_letTemporaryGo (wpAny_pure h₃))) fun _ _ x => x)
  first
    | exact wpAny_pure (wpAny_bind fin)
    | exact wpAny_bind (wpAny_pure (wpAny_bind fin))
    | exact wpAny_bind fin
theorem n_write {h' : Heap} {t' : Nat} {a : Addr} {xs xs' : List (NestedKey × Addr × Value)} (I : Inv X pins σ H s) (ha : H a = some (NObj X.prog X.w a xs)) (lo : (a == sysModules) = false) (dd : h'.DictOfH (nestedKind X.prog X.w) a xs') (hs : Heap.SameBut a s.heap h') :
    Inv X pins σ (upd H a (NObj X.prog X.w a xs')) { s with heap := h', toks := t' } :=
  I.write (t' := t') (by rw [ha]; trivial) (.inl rfl) (fun b u hb q => (hs.2 b hb).trans q) (let ⟨o, _, _, ho, _⟩ := dd; ⟨o, ho⟩) (nobj_ok lo dd)
theorem set_dN (hu : X.A.units + 64 < cLine) : PSet X (fun o i v H Q => ∃ (F : Hp) (a : Addr) (k : NestedKey) (b : Addr) (ds : List (NestedKey × Dt)) (xs : List (NestedKey × Addr × Value)), o = .ref a ∧ i = .ref b ∧ Same F H ∧ H a = some (NObj X.prog X.w a xs) ∧ NRel F ds xs ∧ NKey F k i ∧ ds.length < sizeLine ∧
    ∀ u, RelV v u → Q (upd H a (NObj X.prog X.w a (storedH xs k b u)))) := by
  intro pins s σ H o i v ov iv u Q I ro ri rv ⟨F, a, k, b, ds, xs, eo, ei, e, ha, rel, hk, hz, q⟩
  subst eo ei
  cases ro
  cases ri
  obtain ⟨b', eb, ib⟩ := hk.ref
  cases eb
  obtain ⟨lo, dd⟩ := nobj_at I e ha rel
  refine wpAny_setItem_heap (hsz := by rw [← rel.length]; omega) (hu9 hu) (key_is I e hk.deep ib) dd fun h' dd' hs => ?_
  exact ⟨_, n_write I ha lo dd' hs, q u rv⟩
end
section
variable {X : Cx} {ρ : Env} {R : DP} {D : DEnd} {pos p : Pos} {x : Str} {e : Expr} {es : List Expr}
theorem ndt {F : Hp} {k : NestedKey} {d : Dt} {v : V} (ek : nkD k = d) (hk : k.depth ≤ 8) (ht : ∃ ks, k = .tup ks) (i : Is F d v) : NKey F k v := ⟨ek ▸ i, hk, ht⟩
theorem cd_notinN (hu : X.A.units + 64 < cLine) {ds : List (NestedKey × Dt)} (k : NestedKey) {d : Dt} {R : Bool → Prop} (ek : nkD k = d) (hk : k.depth ≤ 8) (ht : ∃ ks, k = .tup ks) (q : R (!(valD ds k).isSome)) : CD X .NotIn d (.dN ds) R := fun C F ρ σ H v1 v2 Q r h1 h2 kk => by
  obtain ⟨a, xs, rfl, e1, i1, _⟩ := h2.dN
  exact ⟨_, op_notinN hu, F, a, k, ds, xs, rfl, r.part, e1, i1, ndt ek hk ht h1, kk _ q⟩
theorem xd_dN (hu : X.A.units + 64 < cLine) {ds : List (NestedKey × Dt)} (k : NestedKey) {d2 d : Dt} {R : Dt → Prop} (ek : nkD k = d2) (hk : k.depth ≤ 8) (ht : ∃ ks, k = .tup ks) (hv : valD ds k = some d) (q : R d) : XD X (.dN ds) d2 R := fun C F ρ σ H v1 v2 Q r h1 h2 kk => by
  obtain ⟨a, xs, rfl, e1, i1, _⟩ := h1.dN
  exact ⟨_, ix_dN hu, F, a, k, d, ds, xs, rfl, r.part, e1, i1, ndt ek hk ht h2, hv, fun v i => kk d v q i⟩
theorem wd_dN (hu : X.A.units + 64 < cLine) {ds : List (NestedKey × Dt)} (k : NestedKey) {dk d : Dt} {R : Dt → Prop} (ek : nkD k = dk) (hk : k.depth ≤ 8) (ht : ∃ ks, k = .tup ks) (hz : ds.length < sizeLine) (q : R (.dN (putD ds k d))) : WD X (.dN ds) dk d R := fun C F ρ σ H a vk v Q r ht' hF i1 i2 kk => by
  obtain ⟨xs, h1, h2, _⟩ := ht'
  have nk := ndt ek hk ht i1
  obtain ⟨b, rfl, ib⟩ := nk.ref
  refine ⟨_, set_dN hu, F, a, k, b, ds, xs, rfl, rfl, r.part, h1, h2, nk, hz, fun u ru => kk _ _ q ⟨_, upd_same, h2.put hk ib ru i2, ?_⟩⟩
  have rl := (h2.put hk ib ru i2).length
  unfold putD
  split
  · rw [List.length_map]; omega
  · rw [List.length_append, List.length_singleton]; omega
theorem pe_dnewN : PE X (.Dict [] [] pos) (fun _ H Q => ∀ p, H p = none → Q (.ref p) (upd H p (NObj X.prog X.w p []))) := ⟨fun pins s σ H Q I h => by
  have lo : (s.heap.objs.size == sysModules) = false := beq_eq_false_iff_ne.mpr (Ne.symm (Nat.ne_of_lt I.big))
  refine wpAny_Dict_empty ⟨.ref s.heap.objs.size, _, I.laid (a := s.heap.objs.size) (o := NObj X.prog X.w s.heap.objs.size []) (t' := s.toks) (fun _ _ q => Heap.get?_push_of_some _ q) (Nat.le_refl _) (nobj_ok lo (Heap.DictOfH.new s.heap)), rfl, h _ (I.hok.fresh (Nat.le_refl _))⟩⟩
theorem n_dN (q : R (.dN []) ρ) : JN X (.Dict [] [] pos) ρ R := fun C F σ H Q r k => by
  refine re_of pe_dnewN fun p hp => ?_
  exact k _ ρ _ F _ q (Same.refl F) (r.alone _ hp) (fresh_F r.part hp) (r.fresh0 hp) (r.freshT hp) ⟨[], upd_same, .nil, by decide⟩ (r.notHeld hp)
theorem kd_lenN {ds : List (NestedKey × Dt)} {R : Dt → Prop} (q : R (.int ds.length)) : KD X (.builtin "len") [.dN ds] R := fun C F ρ σ H vs Q r h k => by
  obtain ⟨v, rfl, g⟩ := tv1 h
  obtain ⟨a, xs, rfl, e1, i1, hz⟩ := g.dN
  refine ⟨fun vs H Q => ∃ (F : Hp) (a : Addr) (ds : List (NestedKey × Dt)) (xs : List (NestedKey × Addr × Value)), vs = [.ref a] ∧ Same F H ∧ H a = some (NObj X.prog X.w a xs) ∧ NRel F ds xs ∧ ds.length ≤ sizeLine ∧ Q (.int ds.length) H, ?_, F, a, ds, xs, rfl, r.part, e1, i1, hz, k _ _ F H q (Same.refl F) r (.int _)⟩
  intro pins s σ H xs us Q I rv ⟨F, a, ds, xs', ev, e, ha, rel, hz, q⟩
  subst ev
  rw [Vals.ref1 rv]
  obtain ⟨lo, dd⟩ := nobj_at I e ha rel
  have hsz : sizeLine = 16777216 := sizeLine_eq
  refine PyProof.Rows.call_len_slot (n := ds.length) dd.typeIs PySem.F.slot_dict_len (fun Q' hq => len_keyed (kvs := pairsH xs') lo ⟨xs', dd, rfl⟩ (by rw [pairsH_length, ← rel.length]; exact hq)) (by omega) (by omega) ?_
  exact ⟨.int ds.length, H, I.tok _, ⟨_, rfl⟩, q⟩
/-- sorted(d) of such a dict -/
theorem keysN_each {F : Hp} {ds : List (NestedKey × Dt)} {xs : List (NestedKey × Addr × Value)} (h : NRel F ds xs) : PySem.W.EachIs (fun (u : Value) (d : Dt) => ∃ x, RelV x u ∧ Is F d x) (xs.map fun x => .ref x.2.1) (ds.map fun kv => nkD kv.1) := by
  induction h with
  | nil => exact .nil
  | cons r t ih =>
    obtain ⟨e1, e0, e2, _⟩ := r
    exact .cons ⟨.ref _, rfl, e2⟩ ih
theorem kd_sortN (hu : X.A.units + 64 < cLine) {ds : List (NestedKey × Dt)} {R : Dt → Prop} (hs : CanSort (ds.map fun kv => nkD kv.1)) (q : R (.lst (sortD (ds.map fun kv => nkD kv.1)))) (hc : X.calm = true := by rfl) : KD X (.builtin "sorted") [.dN ds] R := fun C F ρ σ H vs Q r h k => by
  obtain ⟨v, rfl, g⟩ := tv1 h
  obtain ⟨a, xs, rfl, e1, i1, hz⟩ := g.dN
  refine ⟨fun vs H Q => ∃ (F : Hp) (a : Addr) (ds : List (NestedKey × Dt)) (xs : List (NestedKey × Addr × Value)), vs = [.ref a] ∧ Same F H ∧ H a = some (NObj X.prog X.w a xs) ∧ NRel F ds xs ∧ CanSort (ds.map fun kv => nkD kv.1) ∧ ∀ ys p, H p = none → IsAll F (sortD (ds.map fun kv => nkD kv.1)) ys → Q (.ref p) (upd H p (.lst ys)), ?_, F, a, ds, xs, rfl, r.part, e1, i1, hs, fun ys p hp hi => ?_⟩
  · intro pins s σ H xs us Q I rv ⟨F, a, ds, xs', ev, e, ha, rel, can, q⟩
    subst ev
    rw [Vals.ref1 rv]
    obtain ⟨lo, o, es, ep, ho, hx, hd, he, _⟩ := nobj_at I e ha rel
    refine sorted_raw hu hc I ⟨o, ho, hx, hd⟩ lo ?_ e can q
    rw [he, List.map_map]
    exact keysN_each rel
  · obtain ⟨r2, e2⟩ := r.new (.lst ys) hp
    exact k _ _ _ _ q e2 r2 (.lst upd_same (hi.mono e2))
end
end DL

set_option Elab.async false
set_option linter.all false
set_option maxRecDepth 100000
set_option autoImplicit false
set_option maxHeartbeats 2000000
/-! D9: written dicts of one pair, setdefault. -/
namespace DL
open PySem PySem.Spec L2

section
variable {X : Cx} {ρ : Env} {R : DP} {D : DEnd} {pos p apos cpos : Pos} {x : Str} {e f ke ve : Expr} {es : List Expr}
theorem JE.out {C : Run} {F H : Hp} {σ : L2.St} (h : JE X e ρ R) (r : Rep X.prog X.w C F ρ σ H) : RE X e σ H fun v H' => ∃ d ρ' F', R d ρ' ∧ Same F F' ∧ Rep X.prog X.w C F' ρ' σ H' ∧ Is F' d v :=
  h C F σ H _ r fun d ρ' v F' H' q e r' i => ⟨d, ρ', F', q, e, r', i⟩
/-- {k: v}, the key an int or a text -/
theorem n_disp1 (h : JE X ke ρ fun dk ρ1 => JE X ve ρ1 fun d ρ2 => ∃ k : Key, keyD k = dk ∧ R (.dK [(k, d)]) ρ2) : JN X (.Dict [some ke] [ve] pos) ρ R := fun C F σ H Q r kk => by
  refine re_of (pe_disp (pps_cons re_pe re_pe pps_nil) rfl rfl (by simp) (by simp)) fun p hp => ?_
  have hF := fresh_F r.part hp
  have h0 := r.fresh0 hp
  have hT := r.freshT hp
  have hO : p ∉ C.own := fun m => (r.mine p m).2.2 hp
  have r0 := r.tmpPut (.dK []) h0 hF hO (r.notHeld hp)
  refine h _ F σ _ _ r0 fun dk ρ1 vk F1 H1 h1 e1 r1 i1 => ?_
  refine h1 _ F1 σ H1 _ r1 fun d ρ2 v F2 H2 ⟨k, ek, q⟩ e2 r2 i2 => ?_
  obtain ⟨z1, z2, z3⟩ := r2.tmps p (.dK []) upd_same
  cases key_v ek (i1.mono e2)
  refine ⟨z1, [(k, v)], rfl, by simp, ?_⟩
  have hn : ∀ (i : Nat) (j : Option Nat) (c : Dt), ρ2[i]? = some (.own j c) → σ[i]? ≠ some (some (.ref p)) := fun i j c g z => by
    have w : upd C.tmp p (.dK []) p = none := r2.held i j c p g z
    rw [upd_same] at w; cases w
  have r3 := r2.tmpPut (.dK (mergeK [] [(k, v)])) h0 z2 hO hn
  rw [upd_off] at r3
  exact kk _ ρ2 p F2 _ q (e1.trans e2) (r3.tmpDrop hT) z2 h0 hT ⟨_, upd_same, .cons i2 .nil⟩ hn
/-- {k: v}, the key a tuple -/
theorem pe_disp1N (hu : X.A.units + 64 < cLine) : PE X (.Dict [some ke] [ve] pos) (fun σ H Q => ∀ p, H p = none → RE X ke σ (upd H p (NObj X.prog X.w p [])) fun vk H1 => RE X ve σ H1 fun v H2 => H2 p = some (NObj X.prog X.w p []) ∧
    ∃ (F : Hp) (k : NestedKey) (b : Addr), vk = .ref b ∧ Same F H2 ∧ k.depth ≤ 8 ∧ Is F (nkD k) (.ref b) ∧ ∀ u, RelV v u → Q (.ref p) (upd H2 p (NObj X.prog X.w p [(k, b, u)]))) := by
  refine ⟨fun pins s σ H Q I q => ?_⟩
  have hn := I.hok.fresh (Nat.le_refl s.heap.objs.size)
  have lo : (s.heap.objs.size == sysModules) = false := beq_eq_false_iff_ne.mpr (Ne.symm (Nat.ne_of_lt I.big))
  have I1 := I.laid (a := s.heap.objs.size) (o := NObj X.prog X.w s.heap.objs.size []) (h' := s.heap.push { cls := .type "dict", data := .dict #[] }) (t' := s.toks) (fun _ _ q => Heap.get?_push_of_some _ q) (Nat.le_refl _) (nobj_ok lo (Heap.DictOfH.new s.heap))
  have q := q _ hn
  have hroom : (nestedKind X.prog X.w).room X.A := by show X.A.units + 8 < cLine; omega
  have hsh : (evalEachOpt [some ke] X.env).zip ((evalEach [ve] X.env).map fun v => do let y ← v; standAt pos; pure y) = (pairTrees [some ke] [ve] X.env pos).map fun p => (some p.1, p.2) := rfl
  rw [arm_eval_Dict, hsh, dictDisplay_pairs (pairTrees [some ke] [ve] X.env pos) (by simp [pairTrees]) (by simp [pairTrees])]
  refine wpAny_bind (wpAny_standAt (wpAny_bind (wpAny_subDictH (knd := nestedKind X.prog X.w) hroom (by simp [pairTrees]) ?_)))
  refine pairTrees_cons_walk (thn (q.run pins _ I1) fun u s1 ⟨vk, H1, J1, ru, q1⟩ => thn (q1.run pins s1 J1) fun u2 s2 ⟨v, H2, J2, rv, hp, F, k, b, ek, e, hd, ik, q2⟩ => pairTrees_nil_walk ?_)
  subst ek
  cases ru
  obtain ⟨_, dd⟩ := nobj_at J2 e hp (F := F) (ds := []) .nil
  refine ⟨[(k, b, u2)], ⟨rfl, rfl, ⟨is_nested J2.hok e ik rfl, hd⟩, trivial⟩, dd, fun h' tk dk hs => wpAny_pure ?_⟩
  exact ⟨.ref s.heap.objs.size, _, n_write J2 hp lo dk hs, rfl, q2 u2 rv⟩
theorem n_disp1N (hu : X.A.units + 64 < cLine) (h : JE X ke ρ fun dk ρ1 => JE X ve ρ1 fun d ρ2 => ∃ k : NestedKey, nkD k = dk ∧ k.depth ≤ 8 ∧ (∃ ks, k = .tup ks) ∧ R (.dN [(k, d)]) ρ2) : JN X (.Dict [some ke] [ve] pos) ρ R := fun C F σ H Q r kk => by
  refine re_of (pe_disp1N hu) fun p hp => ?_
  have hF := fresh_F r.part hp
  have h0 := r.fresh0 hp
  have hT := r.freshT hp
  have hO : p ∉ C.own := fun m => (r.mine p m).2.2 hp
  have r0 := r.tmpPut (NObj X.prog X.w p []) h0 hF hO (r.notHeld hp)
  refine h _ F σ _ _ r0 fun dk ρ1 vk F1 H1 h1 e1 r1 i1 => ?_
  refine h1 _ F1 σ H1 _ r1 fun d ρ2 v F2 H2 ⟨k, ek, hk, ht, q⟩ e2 r2 i2 => ?_
  obtain ⟨z1, z2, z3⟩ := r2.tmps p (NObj X.prog X.w p []) upd_same
  obtain ⟨b, rfl, ib⟩ := (ndt ek hk ht (i1.mono e2)).ref
  refine ⟨z1, F2, k, b, rfl, r2.part, hk, ib, fun u ru => ?_⟩
  have hn : ∀ (i : Nat) (j : Option Nat) (c : Dt), ρ2[i]? = some (.own j c) → σ[i]? ≠ some (some (.ref p)) := fun i j c g z => by
    have w : upd C.tmp p (NObj X.prog X.w p []) p = none := r2.held i j c p g z
    rw [upd_same] at w; cases w
  have r3 := r2.tmpPut (NObj X.prog X.w p [(k, b, u)]) h0 z2 hO hn
  rw [upd_off] at r3
  exact kk _ ρ2 p F2 _ q (e1.trans e2) (r3.tmpDrop hT) z2 h0 hT ⟨_, upd_same, .cons ⟨rfl, hk, ib, v, ru, i2⟩ .nil, by simp; decide⟩ hn
/-- x.setdefault(k, v), the keys nested -/
theorem j_setd (i : Nat) {p1 : Pos} {k1 : Option Nat} {c1 : Dt} (hu : X.A.units + 64 < cLine) (h0 : ρ[i]? = some (.own k1 c1)) (hl : ∃ ds, c1 = .dN ds)
    (h : JE X e ρ fun dk ρ1 => JE X f ρ1 fun d ρ2 => ∃ (k : NestedKey) (k0 : Option Nat) (ds : List (NestedKey × Dt)), nkD k = dk ∧ k.depth ≤ 8 ∧ (∃ ks, k = .tup ks) ∧ ρ2[i]? = some (.own k0 (.dN ds)) ∧ ds.length < sizeLine ∧
      (∀ d', valD ds k = some d' → R d' ρ2) ∧ (valD ds k = none → R d (ρ2.set i (.own k0 (.dN (putD ds k d))))))
    (hN : X.N[i]? = some x := by rfl) (hv : Vis X.env.scope x := by first | exact Or.inl rfl | exact Or.inr (Or.inl rfl) | exact Or.inr (Or.inr rfl))
    (hd : (x == ("__debug__" : Str)) = false := by decide) (hcd : (x == ("__classdict__" : Str)) = false := by decide)
    (m : M2 X (.Name x p1) "setdefault" apos e f cpos := by exact ⟨rfl, rfl, rfl, rfl⟩) :
    JE X (.Call (.Attribute (.Name x p1) "setdefault" apos) [e, f] [] cpos) ρ R := fun C F σ H Q r kk => by
  refine ⟨fun pins s I => ?_⟩
  obtain ⟨a, ea, _, ht, _⟩ := r.own h0
  obtain ⟨ds, rfl⟩ := hl
  obtain ⟨xs, h1, h2, _⟩ := ht
  refine wpAny_Call_method m.base m.few m.line PySem.F.plainAttrs_dict PySem.F.slot_dict_setdefault PySem.F.type_dict_setdefault (thn ((nm_pe (H := H) (Q := fun v H2 => v = .ref a ∧ H2 = H) i hN hv hd hcd ea ⟨rfl, rfl⟩).run pins s I) fun u s1 ⟨y, H1, I1, rx, ey, eH⟩ => ?_)
  rw [ey] at rx
  rw [eH] at I1
  obtain rfl : u = Value.ref a := rx
  obtain ⟨lo1, dd1⟩ := nobj_at I1 r.part h1 h2
  refine ⟨dd1.typeIs, ?_, ?_⟩
  · intro b q
    cases q
    obtain ⟨o, _, _, ho, hx, _⟩ := dd1
    exact ⟨o, ho, hx.2.1⟩
  rw [m.trees]
  refine Calls.callWith_builtin rfl (Calls.evalArgs_plain (Calls.spliced_cons (thn ((h.out r).run pins s1 I1) fun iv s2 ⟨vk, H2, I2, ry, dk, ρ1, F1, hf, e1, r1, i1⟩ =>
    Calls.spliced_cons (thn ((hf.out r1).run pins s2 I2) fun fv s3 ⟨vd, H3, I3, rz, d, ρ2, F2, ⟨k, k0, ds2, ek, hk, ht, g, hz, q1, q2⟩, e2, r2, i2⟩ => Calls.spliced_nil ?_))))
  obtain ⟨a', z1, hF, ht2, _⟩ := r2.own g
  rw [ea] at z1; cases z1
  obtain ⟨xs2, h3, h4, _⟩ := ht2
  obtain ⟨b, rfl, ib⟩ := (ndt ek hk ht (i1.mono e2)).ref
  cases ry
  obtain ⟨lo, dd⟩ := nobj_at I3 r2.part h3 h4
  refine call_setdefault_heap (hsz := by rw [← h4.length]; omega) (hu9 hu) (key_is I3 r2.part hk ib) lo dd (fun p hp => ?_) fun hn h' dd' hs => ?_
  · cases q : valD ds2 k with
    | none => rw [(h4.val k).2 q] at hp; cases hp
    | some d' =>
      obtain ⟨p', v', g1, g2, g3⟩ := (h4.val k).1 d' q
      rw [hp] at g1; cases g1
      exact ⟨v', H3, I3.tok _, g2, kk d' ρ2 v' F2 H3 (q1 d' q) (e1.trans e2) r2 g3⟩
  · have q : valD ds2 k = none := by
      cases q : valD ds2 k with
      | none => rfl
      | some d' =>
        obtain ⟨p', v', g1, _⟩ := (h4.val k).1 d' q
        rw [hn] at g1; cases g1
    have hrel := h4.put hk ib rz i2
    have hlen : (putD ds2 k d).length ≤ sizeLine := by
      unfold putD
      split
      · rw [List.length_map]; omega
      · rw [List.length_append, List.length_singleton]; omega
    exact ⟨vd, _, n_write I3 h3 lo dd' hs, rz, kk d _ vd F2 _ (q2 q) (e1.trans e2) (r2.write g ea ⟨_, upd_same, hrel, hlen⟩) i2⟩
end
end DL

set_option Elab.async false
set_option linter.all false
set_option maxRecDepth 100000
set_option autoImplicit false
set_option maxHeartbeats 2000000
/-! D10: name = [..], data compared, isinstance of a text, a text walked. -/
namespace DL
open PySem PySem.Spec L2

section
variable {X : Cx} {ρ : Env} {R : DP} {D : DEnd} {pos p apos cpos : Pos} {x : Str} {tg iter elt e a b : Expr} {ifs : List Expr} {es : List Expr} {scope : Scope}
/-- name = [..] on one line: a new object of ours -/
theorem t_asgLc (i : Nat) (own : List (Str × Nat)) {y : Str} {py : Pos} {spos : Pos} (h : JI X tg iter ρ fun ds ρ1 => ∃ I : Nat → List Dt → Env → Prop, ds.length ≤ sizeLine ∧ I 0 [] (unAt ρ1 (own.map (·.2))) ∧
      (∀ i d acc ρ', ds[i]? = some d → UnIn ρ' (own.map (·.2)) → I i acc ρ' → Turn1 X scope tg elt ifs (own.map (·.2)) d ρ' fun o ρ2 => I (i + 1) (acc ++ o.toList) (unAt ρ2 (own.map (·.2)))) ∧ ∀ acc ρ', UnIn ρ' (own.map (·.2)) → I ds.length acc ρ' → D.nx (ρ'.set i (.own none (.lst acc))))
    (hN : X.N.Nodup) (ok : BlkOk X.N X.env.scope scope own) (hy : X.N[i]? = some y := by rfl) (hyl : X.env.scope.names.lookup y = some .local := by rfl)
    (hsw : swapsWith (.ListComp elt [⟨tg, iter, ifs, 0⟩] scope pos) (some (.Name y py)) spos.line X.env = pure true := by exact sw_true rfl rfl rfl (by decide +kernel)) (hc : X.calm = true := by rfl) (hs : ∀ x, foldedSetIterable iter X.env x = pure x := by intro _; rfl) :
    J1 X (.Assign [.Name y py] (.ListComp elt [⟨tg, iter, ifs, 0⟩] scope pos) spos) ρ D := fun C F σ H E r k => by
  refine r1_of (ps_setLc (g := fun v σ H Q => ∀ (s : Shared) (H1 : Hp) (C : Addr) (cl : List (Str × Addr)) (fp : List Addr), RG (X.blk s H1 scope (compEnvC scope cl C X.env) fp) tg v σ H Q)
    (tt := fun σ H Q => ∀ (s : Shared) (H1 : Hp) (C : Addr) (cl : List (Str × Addr)) (fp : List Addr), ∃ t, PTs (X.blk s H1 scope (compEnvC scope cl C X.env) fp) ifs t ∧ t σ H Q) (te := fun σ H Q => ∀ (s : Shared) (H1 : Hp) (C : Addr) (cl : List (Str × Addr)) (fp : List Addr), RE (X.blk s H1 scope (compEnvC scope cl C X.env) fp) elt σ H Q) hc hN hy hyl hsw pi_any ok
    (fun s H C cl fp => ⟨fun pins s' σ H v u Q I rv h => (h s _ C cl fp : RG _ _ _ _ _ _).elim fun t ⟨a, b⟩ => a.run pins s' σ H v u Q I rv b⟩)
    (fun s H C cl fp => ⟨fun pins s' σ H Q I h => (h s _ C cl fp).elim fun t ⟨a, b⟩ => a.run pins s' σ H Q I b⟩)
    (fun s H C cl fp => ⟨fun pins s' σ H Q I h => (h s _ C cl fp).run pins s' I⟩) hs) ?_
  exact lc_rule (R := fun c ρ' => D.nx (ρ'.set i (.own none c))) h r fun c ρ' p F' H' q e r' hF h0 hT ht hn => k.nx _ _ F' H' q e (r'.setOwn hF h0 ht hn hT)
/-- data compared -/
theorem cd_eqD (hu : X.A.units + 64 < cLine) {d1 d2 : Dt} {R : Bool → Prop} (p1 : d1.plain = true) (p2 : d2.plain = true) (s1 : SeqAt.shaped d1.py = true) (s2 : SeqAt.shaped d2.py = true) (q : R (PyData.eqv d1.py d2.py)) (g : ∀ v : V, ∀ P w F H, TV P w F H d2 v → Is F d2 v) : CD X .Eq d1 d2 R := fun C F ρ σ H v1 v2 Q r h1 h2 k =>
  ⟨_, op_eqD hu, _, _, is_dp r.part h1 p1, is_dp r.part (g _ _ _ _ _ h2) p2, s1, s2, k _ q⟩
theorem cd_neD (hu : X.A.units + 64 < cLine) {d1 d2 : Dt} {R : Bool → Prop} (p1 : d1.plain = true) (p2 : d2.plain = true) (s1 : SeqAt.shaped d1.py = true) (s2 : SeqAt.shaped d2.py = true) (q : R (!PyData.eqv d1.py d2.py)) (g : ∀ v : V, ∀ P w F H, TV P w F H d2 v → Is F d2 v) : CD X .NotEq d1 d2 R := fun C F ρ σ H v1 v2 Q r h1 h2 k =>
  ⟨_, op_neD hu, _, _, is_dp r.part h1 p1, is_dp r.part (g _ _ _ _ _ h2) p2, s1, s2, k _ q⟩
theorem tv_tup (ds : List Dt) : ∀ v : V, ∀ P w F H, TV P w F H (.tup ds) v → Is F (.tup ds) v := fun v P w F H h => h.elim (fun z => z) fun ⟨_, _, z⟩ => z.elim
/-- isinstance(e, str), e a text -/
theorem j_isStr {p1 p2 : Pos} (hm : X.mg "isinstance" = none) (hm2 : X.mg "str" = none) (h : JE X e ρ fun d ρ1 => ∃ z, d = .str z ∧ R (.bl true) ρ1) (hg : Gl X "isinstance" := by rfl) (hg2 : Gl X "str" := by rfl)
    (hs : starEach [e, .Name "str" p2] X.env = (false, eval e X.env) :: starEach [.Name "str" p2] X.env := by rfl) (hs2 : starEach [.Name "str" p2] X.env = (false, eval (.Name "str" p2) X.env) :: starEach [] X.env := by rfl) (hpl : (backTo pos (starEach [.Name "str" p2] X.env)).any (·.1) = false := by rfl) :
    JE X (.Call (.Name "isinstance" p1) [e, .Name "str" p2] [] pos) ρ R := fun C F σ H Q r k => by
  refine re_of (pe_callB call_isi hg hm (by decide +kernel) (pa_cons re_pe (pa_cons (pe_bltn (v := .ty "str") hg2 hm2 (by decide +kernel) rfl) pa_nil hs2) hs) (he := hs) (hpl := hpl)) ?_
  refine h C F σ H _ r fun d ρ1 v F1 H1 ⟨z, ed, q⟩ e1 r1 i1 => ?_
  subst ed
  cases i1
  exact ⟨.str z, .ty "str", .type "str", .type "str", true, rfl, .ty "str", .base (.str z), kit_ty (by decide +kernel), k _ ρ1 _ F1 H1 q e1 r1 (.bl true)⟩
/-- a text's signs -/
def signs (z : Str) : List Dt := z.cps.toList.map fun c => .str ⟨#[c]⟩
theorem its_is {F : Hp} (z : Str) : ItIs F (Its z) (signs z) := fun H e i => by
  have hl : (signs z).length = z.cps.size := by simp [signs]
  rw [hl]
  refine ⟨fun hi => ⟨hi, fun v H' ⟨e1, c, e2, e3⟩ => ⟨e1, .str ⟨#[c]⟩, ?_, ?_⟩⟩, fun hi => hi⟩
  · unfold signs
    rw [List.getElem?_map, Array.getElem?_toList, e2]
    rfl
  · subst e3
    exact .str _
theorem i_str {R : List Dt → Env → Prop} (h : JE X e ρ fun d ρ' => ∃ z, d = .str z ∧ R (signs z) ρ') : JI X tg e ρ R := fun C F σ H Q r k => by
  refine ⟨_, pi_str re_pe, h C F σ H _ r fun d ρ1 v F1 H1 ⟨z, ed, q⟩ e1 r1 i1 => ?_⟩
  subst ed
  cases i1
  exact ⟨z, rfl, k _ ρ1 _ F1 H1 q e1 r1 (its_is z)⟩
end
end DL

set_option Elab.async false
set_option linter.all false
set_option maxRecDepth 100000
set_option autoImplicit false
set_option maxHeartbeats 4000000
/-! D11: set(list of ints | texts), its length, sorted. -/
namespace DL
open PySem PySem.Spec L2
open PyProof.Rows (seqObj sortedHeap)

def kOf (e : Int × Value) : Key := match e.2 with
  | .int k _ => .inl k
  | .str x _ => .inr x
  | _ => .inl 0
def Gd (w : World) (e : Int × Value) : Prop := keyIs (kOf e) e.2 = true ∧ e.1 = keyH w (kOf e)
theorem gd_of {w : World} {k : Key} {v : Value} (h : keyIs k v = true) : kOf (keyH w k, v) = k ∧ Gd w (keyH w k, v) := by
  have e : kOf (keyH w k, v) = k := by
    rcases keyIs_shape h with ⟨i, t, rfl, rfl⟩ | ⟨x, t, rfl, rfl⟩ <;> rfl
  refine ⟨e, ?_, ?_⟩
  · rw [e]; exact h
  · rw [e]
theorem key_scans {k : Key} {v : Value} (h : keyIs k v = true) : v.scannable = true := by
  rcases keyIs_shape h with ⟨i, t, rfl, rfl⟩ | ⟨x, t, rfl, rfl⟩ <;> rfl
/-- the set at a: its keys are those of ks -/
def KSet (w : World) (h : Heap) (a : Addr) (S : Key → Prop) (n : Nat) : Prop :=
  ∃ o es ep t, h.get? a = some o ∧ o.ExactSet ∧ o.data = .set es ep t ∧ (∀ e ∈ es.toList, Gd w e) ∧ (es.toList.map kOf).Nodup ∧ (∀ k, S k ↔ k ∈ es.toList.map kOf) ∧
    es.size < scanBound ∧ t.fits es.size = true ∧ es.size = n ∧ Ris t.place.toList ∧ (w.params.followText "set-order" = true ∨ t.led = true)
section
variable {P : Program} {w : World} {A : Around} {E : Value → Shared → Prop} {s : Shared} {a : Addr} {n : Nat}
theorem KSet.at {h h' : Heap} {S : Key → Prop} (R : KSet w h a S n) (k : ∀ o, h.get? a = some o → h'.get? a = some o) : KSet w h' a S n := by
  obtain ⟨o, es, ep, t, ho, r⟩ := R
  exact ⟨o, es, ep, t, k o ho, r⟩
theorem KSet.as {h : Heap} {S S' : Key → Prop} (R : KSet w h a S n) (e : ∀ k, S' k ↔ S k) : KSet w h a S' n := by
  obtain ⟨o, es, ep, t, h1, h2, h3, h4, h5, h6, r⟩ := R
  exact ⟨o, es, ep, t, h1, h2, h3, h4, h5, fun k => (e k).trans (h6 k), r⟩
theorem gd_elems {l : List (Int × Value)} (g : ∀ e ∈ l, Gd w e) : ElemsOf (mixKind P w) l := fun e he => ⟨⟨kOf e, (g e he).1, (g e he).2⟩, key_scans (g e he).1⟩
theorem key_one {v : Value} {a b : Key} (ha : keyIs a v = true) (hb : keyIs b v = true) : a = b := by
  rcases keyIs_shape ha with ⟨i, t, rfl, rfl⟩ | ⟨x, t, rfl, rfl⟩
  · rcases keyIs_shape hb with ⟨j, u, rfl, e⟩ | ⟨y, u, rfl, e⟩
    · cases e; rfl
    · cases e
  · rcases keyIs_shape hb with ⟨j, u, rfl, e⟩ | ⟨y, u, rfl, e⟩
    · cases e
    · cases e; rfl
theorem gd_is {e : Int × Value} (g : Gd w e) (k : Key) : keyIs k e.2 = true ↔ kOf e = k :=
  ⟨fun h => key_one g.1 h, fun h => h ▸ g.1⟩
theorem gd_mem {l : List (Int × Value)} (g : ∀ e ∈ l, Gd w e) (k : Key) : k ∈ l.map kOf ↔ ∃ e ∈ l, keyIs k e.2 = true := by
  rw [List.mem_map]
  exact ⟨fun ⟨e, he, q⟩ => ⟨e, he, (gd_is (g e he) k).2 q⟩, fun ⟨e, he, q⟩ => ⟨e, he, (gd_is (g e he) k).1 q⟩⟩
/-- the end of an add -/
theorem kset_tail {g : Bool → Sem Unit} (hg : ∀ (b : Bool) (s₁ : Shared) (Q' : Unit → Shared → Prop), Q' () s₁ → wpAny (model P w) A (g b) Q' E s₁)
    {o : Obj} {es : Array (Int × Value)} {ep : Nat} {t : SetTable} (ho : s.heap.get? a = some o) (hex : o.ExactSet) (hd : o.data = .set es ep t) {es1 : Array (Int × Value)} {t2 : SetTable} {S' : Key → Prop}
    (g1 : ∀ e ∈ es1.toList, Gd w e) (nd1 : (es1.toList.map kOf).Nodup) (m1 : ∀ k, S' k ↔ k ∈ es1.toList.map kOf) (hb1 : es1.size < scanBound) (hf2 : t2.fits es1.size = true) (hr : Ris t2.place.toList)
    (hl : w.params.followText "set-order" = true ∨ t2.led = true) {wasDummy : Bool} {R : Option Bool → Shared → Prop} (hR : ∀ h', Heap.SameBut a s.heap h' → KSet w h' a S' es1.size → R (some true) { s with heap := h' }) :
    wpAny (model P w) A (do
        storeSet a es1 t2
        if (!wasDummy && t2.tooFull) = true then do
            g (relayAll t2 es1 (SetTable.grown es1.size)).2.2
            storeSet a (relayAll t2 es1 (SetTable.grown es1.size)).1 (relayAll t2 es1 (SetTable.grown es1.size)).2.1
            pure (some true)
          else pure (some true)) R E s := by
  refine wpAny_bind (wpAny_storeSet_of ho hd ?_ (fits_of_scanBound hb1))
  have ho1 := store_at (es' := es1) (t' := t2) ho hd
  have sb1 := Heap.SameBut.update s.heap a (Obj.putSet es1 t2)
  split
  · have pm := relayAll_perm t2 es1 (SetTable.grown es1.size)
    have hf3 := relayAll_fits t2 es1 (SetTable.grown es1.size)
    have hr3 := relayAll_ris t2 es1 (SetTable.grown es1.size)
    have hl3 := relayAll_led t2 es1 (SetTable.grown es1.size)
    generalize relayAll t2 es1 (SetTable.grown es1.size) = Z at pm hf3 hr3 hl3 ⊢
    obtain ⟨es2, t3, gave⟩ := Z
    dsimp only at pm hf3 hr3 hl3 ⊢
    have hsz : es2.size = es1.size := by rw [← Array.length_toList, pm.length_eq, Array.length_toList]
    refine wpAny_bind (hg _ _ _ (wpAny_bind (wpAny_storeSet_of ho1 rfl ?_ (fits_of_scanBound (hsz ▸ hb1)))))
    refine wpAny_pure (hR _ (sb1.trans (Heap.SameBut.update _ a _)) ⟨_, es2, _, t3, store_at (es' := es2) (t' := t3) ho1 rfl, hex, rfl, fun e he => g1 e (pm.mem_iff.mp he), (pm.map kOf).nodup_iff.mpr nd1, fun k => (m1 k).trans (pm.map kOf).mem_iff.symm, hsz ▸ hb1, hf3, hsz, hr3, hl.imp (fun z => z) fun z => by rw [hl3]; exact z⟩)
  · exact wpAny_pure (hR _ sb1 ⟨_, es1, _, t2, ho1, hex, rfl, g1, nd1, m1, hb1, hf2, rfl, hr, hl⟩)
theorem kset_add {S : Key → Prop} {k : Key} {v : Value} {Q : Bool → Shared → Prop} (hk : keyIs k v = true) (R : KSet w s.heap a S n) (room : n + 1 < scanBound)
    (hQ : ∀ b h' n', Heap.SameBut a s.heap h' → n' ≤ n + 1 → KSet w h' a (fun j => S j ∨ j = k) n' → Q b { s with heap := h' }) : wpAny (model P w) A (setAddHashed a v ((mixKind P w).hash k)) Q E s := by
  obtain ⟨o, es, ep, t, ho, hex, hd, g, nd, hm, hb, hf, hn, hr, hl⟩ := R
  have hsc : v.scannable = true := key_scans hk
  have hel : ElemsOf (mixKind P w) es.toList := gd_elems g
  unfold setAddHashed setAddHashedIn
  refine wpAny_holding (wpAny_bind (wpAny_setState_of ho hd hf ?_))
  dsimp only
  rw [byScan_of hsc hb hel]
  simp only [↓reduceIte]
  unfold setAddByScan
  refine wpAny_bind (wpAny_bind (wpAny_rule (wpAny_bind (wpAny_setScan_of (knd := mixKind P w) (k := k) hk ho hd hf hel ?_))))
  cases hfi : List.findIdx? (fun e => (mixKind P w).is k e.2) es.toList with
  | some j =>
    dsimp only
    obtain ⟨hj, pj, _⟩ := List.findIdx?_eq_some_iff_getElem.mp hfi
    have hS : S k := (hm k).2 ((gd_mem g k).2 ⟨es.toList[j], List.getElem_mem hj, pj⟩)
    exact wpAny_pure (wpAny_pure (hQ _ s.heap n (Heap.SameBut.refl a s.heap) (Nat.le_succ n) ⟨o, es, ep, t, ho, hex, hd, g, nd, fun i => by
      rw [← hm i]
      exact ⟨fun z => z.elim (fun y => y) fun e => e ▸ hS, .inl⟩, hb, hf, hn, hr, hl⟩))
  | none =>
    dsimp only
    have hnk : k ∉ es.toList.map kOf := fun z => by
      obtain ⟨e, he, q⟩ := (gd_mem g k).1 z
      have c := List.findIdx?_eq_none_iff.mp hfi e he
      have q : (mixKind P w).is k e.2 = true := q
      rw [q] at c
      cases c
    have hgw : ∀ (b : Bool) {s₁ : Shared} {Q' : Unit → Shared → Prop}, Q' () s₁ → wpAny (model P w) A (match b with | true => rule "set.scan.the-table-gave-way" | false => pure ()) Q' E s₁ :=
      fun b s₁ Q' q => by cases b <;> first | exact wpAny_pure q | exact wpAny_rule q
    have pm := layNew_perm t es ((mixKind P w).hash k) v
    have hf1 := layNew_fits t es ((mixKind P w).hash k) v
    have hr1 := layNew_ris t es ((mixKind P w).hash k) v hr
    have hl1 := layNew_led t es ((mixKind P w).hash k) v
    generalize layNew t es ((mixKind P w).hash k) v = Z at pm hf1 hr1 hl1 ⊢
    obtain ⟨es1, t1, wasDummy, gave⟩ := Z
    dsimp only at pm hf1 hr1 hl1 ⊢
    rw [Array.toList_push] at pm
    have pc : es1.toList.Perm ((keyH w k, v) :: es.toList) := pm.trans (List.perm_append_singleton _ _)
    have pk : (es1.toList.map kOf).Perm (k :: es.toList.map kOf) := by
      have q := pc.map kOf
      rw [List.map_cons, (gd_of (w := w) hk).1] at q
      exact q
    have g1 : ∀ e ∈ es1.toList, Gd w e := fun e he => by
      rcases List.mem_cons.mp (pc.mem_iff.mp he) with z | z
      · rw [z]; exact (gd_of hk).2
      · exact g e z
    have nd1 : (es1.toList.map kOf).Nodup := pk.nodup_iff.mpr (List.nodup_cons.mpr ⟨hnk, nd⟩)
    have m1 : ∀ i, (S i ∨ i = k) ↔ i ∈ es1.toList.map kOf := fun i => by
      rw [hm i, pk.mem_iff, List.mem_cons]
      exact Or.comm
    have hsz : es1.size = n + 1 := by rw [← Array.length_toList, pc.length_eq, List.length_cons, Array.length_toList, hn]
    have hb1 : es1.size < scanBound := by rw [hsz]; exact room
    have hled : w.params.followText "set-order" = true ∨ t1.led = true := hl.imp (fun z => z) fun z => by rw [hl1]; exact z
    have fin : ∀ b h', Heap.SameBut a s.heap h' → KSet w h' a (fun j => S j ∨ j = k) es1.size → Q b { s with heap := h' } := fun b h' sb r => hQ b h' _ sb (by omega) r
    refine wpAny_bind (hgw _ ?_)
    split
    · refine wpAny_bind ?_
      rw [hashByValue_scannable 8 hsc]
      refine wpAny_pure ?_
      refine kset_tail ?_ ho hex hd g1 nd1 m1 hb1 ?_ ?_ ?_ ?_
      · intro b s₁ Q' q; cases b <;> first | exact wpAny_pure q | exact wpAny_rule q
      · first | (split <;> first | exact hf1 | exact SetTable.fits_plain_off hf1) | exact hf1
      · first | (split <;> exact hr1) | exact hr1
      · first | (split <;> exact hled) | exact hled
      · intro h' sb r; dsimp only; exact wpAny_pure (fin _ h' sb r)
    · refine wpAny_bind (wpAny_pure ?_)
      simp only [↓reduceIte]
      refine kset_tail ?_ ho hex hd g1 nd1 m1 hb1 hf1 hr1 hled ?_
      · intro b s₁ Q' q; cases b <;> first | exact wpAny_pure q | exact wpAny_rule q
      · intro h' sb r; dsimp only; exact wpAny_pure (fin _ h' sb r)
theorem kset_fresh {h : Heap} {S : Key → Prop} (ho : h.get? a = some { cls := .type "set", dict := none, data := .set #[] 0 (.fresh 0 0 (!w.params.followText "set-order")) }) (hS : ∀ k, ¬ S k) : KSet w h a S 0 :=
  ⟨_, #[], 0, _, ho, ⟨rfl, rfl, rfl⟩, rfl, (fun e he => by simp at he), (by simp), (fun k => ⟨fun z => absurd z (hS k), fun z => by simp at z⟩), (by decide), (by rfl), rfl, List.Pairwise.nil, by
    show _ ∨ (!w.params.followText "set-order") = true
    cases w.params.followText "set-order" <;> simp⟩
theorem kset_update {I : Addr} {fp wr : List Addr} {G : Array GenState → Array GenState → Prop} {m : Nat} {Pv : Nat → Value → Prop} {St : Nat → Shared → Prop} {R : Result → Shared → Prop}
    (W : WalksS P w A.in1 I fp wr G m Pv St) (S : Addr) (hSf : S ∉ fp) (ks : List Key) (hm : m = ks.length) (hb : ks.length + 1 < scanBound) (hval : ∀ i v, Pv i v → ∃ k, ks[i]? = some k ∧ keyIs k v = true) :
    ∀ (k i : Nat) (s : Shared), m - i = k → i ≤ m → St i s → (∃ c, c ≤ i ∧ KSet w s.heap S (fun j => j ∈ ks.take i) c) →
      (∀ s' c, Moved (S :: wr) G s s' → c ≤ m → KSet w s'.heap S (fun j => j ∈ ks) c → R (.ok (.ret .none)) s') →
      codeAny (model P w) A (.builtin "set.update.loop" ⟨[.ref S, .ref I], []⟩) R s := by
  have hSw : S ∉ wr := fun h => hSf (W.sub _ h)
  have hsub : ∀ b ∈ wr, b ∈ S :: wr := fun b hb => List.mem_cons_of_mem _ hb
  intro k
  induction k with
  | zero =>
    intro i s hk' hi hst ⟨c, hc, hS⟩ hR
    have hin : i = m := by omega
    subst hin
    refine codeAny_builtin PyProof.Rows.F.entry_set_update_loop ?_
    rw [Around.under_plainId PyProof.Rows.F.plain_set_update_loop _]
    show wpAny _ A.in1 (pyNext (.ref I) >>= _) _ _ s
    refine wpAny_bind (W.done s _ _ hst fun s' mv => ?_)
    show wpAny _ A.in1 (ret Value.none) _ _ s'
    have e : ks.take i = ks := List.take_of_length_le (by omega)
    rw [e] at hS
    exact wpAny_pure (hR s' c (mv.mono hsub) hc (hS.at fun o e => mv.heap S o hSw e))
  | succ k ih =>
    intro i s hk' hi hst ⟨c, hc, hS⟩ hR
    have hlt : i < m := by omega
    refine codeAny_builtin PyProof.Rows.F.entry_set_update_loop ?_
    rw [Around.under_plainId PyProof.Rows.F.plain_set_update_loop _]
    show wpAny _ A.in1 (pyNext (.ref I) >>= _) _ _ s
    refine wpAny_bind (W.item i s _ _ hlt hst fun v s' hP hst' mv => ?_)
    obtain ⟨z, hz, hzv⟩ := hval i v hP
    have hS' : KSet w s'.heap S (fun j => j ∈ ks.take i) c := hS.at fun o e => mv.heap S o hSw e
    show wpAny _ A.in1 (holding [v] (setAdd S v) >>= _) _ _ s'
    refine wpAny_bind (wpAny_holding ?_)
    unfold setAdd
    refine wpAny_holding (wpAny_bind ((mixKind P w).pyHash (k := z) hzv ?_))
    refine kset_add (s := { s' with toks := s'.toks + 1 }) hzv hS' (by omega) fun b h' n' hsb hn' hS2 => ?_
    have hS3 : KSet w h' S (fun j => j ∈ ks.take (i + 1)) n' := hS2.as fun j => by
      rw [List.take_add_one, hz]
      simp [List.mem_append]
    refine wpAny_pure ⟨plainId_quiet PyProof.Rows.F.plain_set_update_loop _, ih (i + 1) _ (by omega) hlt (W.frame _ s' _ _ hst' (Nat.le_succ _) fun b hb o e => ?_) ⟨_, by omega, hS3⟩ fun s'' c2 mv2 hc2 hS4 => ?_⟩
    · have nb : b ≠ S := fun h => hSf (h ▸ hb)
      rw [hsb.2 b nb]; exact e
    · refine hR s'' c2 (Moved.trans W.gtrans ((mv.mono hsub).then_heap (Nat.le_succ _) fun b o hb e => ?_) mv2) hc2 hS4
      have nb : b ≠ S := fun h => hb (h ▸ List.mem_cons_self)
      rw [hsb.2 b nb]; exact e
abbrev freshSet (w : World) : Obj := { cls := .type "set", dict := none, data := .set #[] 0 (.fresh 0 0 (!w.params.followText "set-order")) }
/-- set(l), l a list of keys -/
theorem call_kset {l : Addr} {items : Array Value} (ks : List Key) {Q : Value → Shared → Prop} (hh : A.handled = none) (hl : s.heap.IsList l items) (hsz : items.size = ks.length) (hit : ∀ (i : Nat) (v : Value), items[i]? = some v → ∃ k, ks[i]? = some k ∧ keyIs k v = true) (hb : ks.length + 1 < scanBound)
    (h : ∀ (h' : Heap) (tk c : Nat), KSet w h' s.heap.objs.size (fun j => j ∈ ks) c → c ≤ ks.length → (∀ b o, s.heap.get? b = some o → h'.get? b = some o) → Q (.ref s.heap.objs.size) { s with heap := h', toks := tk }) :
    wpAny (model P w) A (call (.type "set") [.ref l]) Q E s := by
  obtain ⟨c, tl, hmro⟩ := F.called_set.mro
  have hmade := F.called_set.made
  have hsub := F.called_set.sub
  refine wpAny_call (codeAny_of_tree ?_)
  show wpAny _ _ (callAny (.type "set") _) _ _ _
  refine wpAny_pure ⟨Code.quiet_builtin _ (by decide +kernel), codeAny_builtin F.entry_type_call ?_⟩
  rw [Around.under_plain (weight_type_call_type "set" [.ref l] []) rfl]
  have h1 := F.called_set.notType
  have h2 := F.called_set.canCreate
  have hct := F.typeCall_set_1 (.ref l)
  repeat (any_goals (first | assumption | wp_step))
  refine codeAny_mono (code_set_led1 (.ref l) (E := E) (Q₁ := fun obj s₁ => obj = .ref s.heap.objs.size ∧ s₁ = { s with heap := s.heap.push (freshSet w) }) ⟨rfl, rfl⟩) fun r s₁ hr => ?_
  cases r with
  | error e => exact hr
  | ok fl =>
    cases fl with
    | ret obj =>
      obtain ⟨rfl, rfl⟩ := hr
      have hS : (s.heap.push (freshSet w)).get? s.heap.objs.size = some (freshSet w) := Heap.get?_push_size _ rfl
      have hT : Shared.TypeIs { s with heap := s.heap.push (freshSet w) } (.ref s.heap.objs.size) "set" := ⟨_, hS, rfl⟩
      have hli := F.called_set.init.lookup
      have hbi := F.called_set.init.bind (.ref s.heap.objs.size)
      repeat (any_goals (first | assumption | wp_step))
      refine codeAny_mono (codeAny_call_builtin (R := wants (fun r s₂ => r = .none ∧ ∃ h' tk c, s₂ = { s with heap := h', toks := tk } ∧ KSet w h' s.heap.objs.size (fun j => j ∈ ks) c ∧ c ≤ ks.length ∧
          (∀ b o, s.heap.get? b = some o → h'.get? b = some o)) E) F.called_set.init.plain F.entry_set_init (check_set_init_1 hT ?_)) fun r₂ s₂ hr₂ => ?_
      · obtain ⟨ol, hol, hcl, nl, hdl⟩ := hl
        obtain ⟨ocls, odict, odata, oslots⟩ := ol
        simp only at hcl hdl
        subst hcl; subst hdl
        have hol' : (s.heap.push (freshSet w)).get? l = some { cls := .type "list", dict := odict, data := .seq items nl, slots := oslots } := Heap.get?_push_of_some _ hol
        have hsls := F.sub_list_set
        have hslf := F.sub_list_frozenset
        have hne : (Value.type "list" == Value.type "dict") = false := by decide
        have hl1 : (s.heap.push (freshSet w)).IsList l items := ⟨_, hol', rfl, nl, rfl⟩
        unfold Builtin.«set.__init__» noKeywords Builtin.Frozenset.updateFrom
        generalize hPI : pyIter = PI
        wp_walk
        subst hPI
        refine wpAny_pyIter_list hl1 (wpAny_bind (wpAny_runValue ?_))
        have hlS : l < s.heap.objs.size := Heap.lt_size hol
        have hh3 : A.in1.in1.in1.handled = none := by simp [hh]
        have hsize : (s.heap.push (freshSet w)).objs.size = s.heap.objs.size + 1 := Heap.size_push ..
        have hneI : l ≠ (s.heap.push (freshSet w)).objs.size := by
          rw [hsize]; exact Nat.ne_of_lt (Nat.lt_succ_of_lt hlS)
        have hSf : s.heap.objs.size ∉ [(s.heap.push (freshSet w)).objs.size, l] := by
          rw [hsize]; simp only [List.mem_cons, List.mem_singleton, List.not_mem_nil, or_false, not_or]
          exact ⟨Nat.ne_of_lt (Nat.lt_succ_self _), Nat.ne_of_gt hlS⟩
        refine kset_update ((Walks.list hh3 _ l hneI items).toS) s.heap.objs.size hSf ks hsz hb (fun i v hv => hit i v hv) (items.size - 0) 0 _ (by omega) (Nat.zero_le _)
          ⟨⟨_, Heap.get?_push_size _ rfl, rfl, rfl⟩, (hl1.push _)⟩ ⟨0, Nat.le_refl 0, kset_fresh (Heap.get?_push_of_some _ hS) (by simp)⟩ ?_
        intro s' c' mv hc' hS'
        obtain ⟨h', g2, d', tk', os'⟩ := s'
        have eg : g2 = s.gens := mv.gens
        have ed : d' = s.drawn := mv.drawn
        have eo : os' = s.os := mv.os
        subst eg; subst ed; subst eo
        show wpAny _ _ _ _ _ _
        refine wpAny_pure ?_
        show wpAny _ _ (ret Value.none) _ _ _
        refine wpAny_pure ⟨rfl, h', tk', c', rfl, hS', by omega, fun b o e => ?_⟩
        have hb0 : b < s.heap.objs.size := Heap.lt_size e
        have hb2 : b ≠ (s.heap.push (freshSet w)).objs.size := by
          rw [hsize]; exact Nat.ne_of_lt (Nat.lt_succ_of_lt hb0)
        exact mv.heap b o (by simp only [List.mem_cons, List.mem_singleton, List.not_mem_nil, or_false, not_or]; exact ⟨Nat.ne_of_lt hb0, hb2⟩) (Heap.get?_push_of_some _ (Heap.get?_push_of_some _ e))
      · cases r₂ with
        | error e => exact hr₂
        | ok fl₂ =>
          cases fl₂ with
          | ret r =>
            obtain ⟨rfl, h', tk, c', rfl, hS', hc', hk'⟩ := hr₂
            repeat (any_goals (first | assumption | wp_step))
            exact h _ _ _ hS' hc' hk'
          | _ => exact hr₂.elim
    | _ => exact hr.elim
end
end DL

set_option Elab.async false
set_option linter.all false
set_option maxRecDepth 100000
set_option autoImplicit false
set_option maxHeartbeats 2000000
/-! D12: len(set(l)), sorted(set(l)); the order of ints, of texts. -/
namespace DL
open PySem PySem.Spec L2
open PyProof.Rows (seqObj)

section
variable {X : Cx} {pins : List (Addr × Obj)} {σ : L2.St} {H F : Hp} {s : Shared} {Q : VK}
/-- a list's items are these keys -/
theorem keys_items {F : Hp} : ∀ {ks : List Key} {xs : List V} {us : List Value}, IsAll F (ks.map keyD) xs → Vals xs us → us.length = ks.length ∧ ∀ (i : Nat) (v : Value), us[i]? = some v → ∃ k, ks[i]? = some k ∧ keyIs k v = true
  | [], _, _, .nil, .nil => ⟨rfl, fun i v e => by simp at e⟩
  | k :: ks, _, _, .cons h t, @Paired.cons _ _ _ _ u _ _ r rs => by
    obtain ⟨h1, h2⟩ := keys_items t rs
    refine ⟨congrArg (· + 1) h1, fun i v e => ?_⟩
    cases i with
    | zero =>
      have e : u = v := by simpa using e
      subst e
      refine ⟨k, rfl, ?_⟩
      cases k with
      | inl n =>
        cases h
        obtain ⟨tk, rfl⟩ := r
        exact keyIs_int n tk
      | inr x =>
        cases h
        obtain ⟨tk, rfl⟩ := r
        exact keyIs_str x tk
    | succ i => exact h2 i v (by simpa using e)
/-- sorted(s) of such a set -/
theorem sorted_kset (hu : X.A.units + 64 < cLine) (hc : X.calm = true) {a : Addr} {S : Key → Prop} {n : Nat} (I : Inv X pins σ H s) (R : KSet X.w s.heap a S n) (F : Hp)
    (q : ∀ L : List Key, L.Nodup → (∀ k, k ∈ L ↔ S k) → CanSort (L.map keyD) ∧ ∀ ys p, H p = none → IsAll F (sortD (L.map keyD)) ys → Q (.ref p) (upd H p (.lst ys))) :
    wpAny (model X.prog X.w) X.A (call (.builtin "sorted") [.ref a]) (EP X pins σ Q) X.xe s := by
  obtain ⟨o, es, ep, t, ho, hex, hd, g, nd, hm, hb, hf, hn, hr, hl⟩ := R
  refine Calls.call_function_entry PyProof.Rows.kind_sorted PyProof.Rows.plain_sorted PyProof.Rows.entry_sorted (PyProof.Rows.args_sorted1 _) ?_
  unfold Builtin.«sorted»
  refine wpAny_bind (m := checkCount "sorted" 1 1 _) (wpAny_pure ?_)
  refine wpAny_bind (collect_set (A := X.A.in1) (I.ok.hd hc) ⟨o, ho, hex.1, hd⟩ hf hb hr hl fun s1 vs k1 hz g1 o1 pm => ?_)
  -- the keys as they came
  have hkeys : ∀ u ∈ vs, ∃ e ∈ es.toList, e.2 = u := fun u hu => by
    obtain ⟨e, he, q⟩ := List.mem_map.mp (pm.mem_iff.mp hu)
    exact ⟨e, he, q⟩
  let kv : Value → Key := fun u => kOf (0, u)
  have hkv : ∀ e : Int × Value, kOf e = kv e.2 := fun e => rfl
  have hL : (vs.map kv).Perm (es.toList.map kOf) := by
    have q := pm.map kv
    rw [List.map_map] at q
    exact q
  have hgood : ∀ u ∈ vs, keyIs (kv u) u = true := fun u hu => by
    obtain ⟨e, he, rfl⟩ := hkeys u hu
    exact (g e he).1
  have hnd : (vs.map kv).Nodup := hL.nodup_iff.mpr nd
  have hmem : ∀ k, k ∈ vs.map kv ↔ S k := fun k => by rw [hL.mem_iff, ← hm k]
  obtain ⟨can, q⟩ := q (vs.map kv) hnd hmem
  have I1 : Inv X pins σ H s1 := by
    have J := I.call (h' := s1.heap) (g' := s1.gens) (t' := s1.toks) (d' := s1.drawn) (ch := []) (Un.kept k1) (I.hok.kept k1) (by rw [g1]; exact I.bare) (fun _ z => nomatch z)
    have e : s1 = { s with heap := s1.heap, gens := s1.gens, drawn := s1.drawn, toks := s1.toks } := by
      cases s1
      cases s
      cases o1
      rfl
    rw [e]
    exact J
  have ek : PySem.W.EachIs (fun (u : Value) (d : Dt) => ∃ x, RelV x u ∧ Is F d x) vs ((vs.map kv).map keyD) := by
    have all : ∀ us : List Value, (∀ u ∈ us, keyIs (kv u) u = true) → PySem.W.EachIs (fun (u : Value) (d : Dt) => ∃ x, RelV x u ∧ Is F d x) us ((us.map kv).map keyD) := fun us => by
      induction us with
      | nil => intro _; exact .nil
      | cons u us ih =>
        intro h
        refine .cons ?_ (ih fun v hv => h v (List.mem_cons_of_mem _ hv))
        rcases keyIs_shape (h u List.mem_cons_self) with ⟨i, tk, e2, e3⟩ | ⟨x, tk, e2, e3⟩
        · exact ⟨.int i, ⟨tk, e3⟩, by rw [e2]; exact .int i⟩
        · exact ⟨.str x, ⟨tk, e3⟩, by rw [e2]; exact .str x⟩
    exact all vs hgood
  have hlen : vs.length ≤ sizeLine := by rw [ek.length]; exact can.few
  refine wpAny_bind (wpAny_newList ?_ hlen)
  have hoL : (s1.heap.push (seqObj "list" vs.toArray 0)).get? s1.heap.objs.size = some (seqObj "list" vs.toArray 0) := Heap.get?_push_size _ rfl
  have er : PySem.W.EachIs (fun (u : Value) (d : Dt) => ∃ as, PySem.Reads (s1.heap.push (seqObj "list" vs.toArray 0)) u d.py as ∧ s1.heap.objs.size ∉ as) vs ((vs.map kv).map keyD) := by
    refine PySem.W.EachIs.of_zip ek.length fun p hp => ?_
    obtain ⟨x, rx, ix⟩ := ek.zip p hp
    have hd := (List.of_mem_zip hp).2
    obtain ⟨k, _, hk⟩ := List.mem_map.mp hd
    rw [← hk] at ix ⊢
    cases k with
    | inl i =>
      cases ix
      obtain ⟨tk, e⟩ := rx
      rw [e]
      exact ⟨[], by rw [show (keyD (.inl i)).py = .int i from by simp [keyD, Dt.py]]; exact .int i tk, by simp⟩
    | inr z =>
      cases ix
      obtain ⟨tk, e⟩ := rx
      rw [e]
      exact ⟨[], by rw [show (keyD (.inr z)).py = .str z from by simp [keyD, Dt.py]]; exact .str z tk, by simp⟩
  refine wpAny_bind (wpAny_holding (PySem.W.list_sort_data (enc := Dt.py) (s := { s1 with heap := s1.heap.push (seqObj "list" vs.toArray 0) }) hoL ek er can.alike can.kind can.few (fun b hb => ?_) fun out ho eo => ?_))
  · have := can.flat b hb
    show X.A.units + 1 + 1 + b.py.depth < cLine
    omega
  · exact wpAny_pure ⟨_, rfl, sort_fin (s := s1) (tk := s1.toks) I1 can.few ho eo q⟩
end
section
variable {X : Cx} {ρ : Env} {R : DP} {a : Expr} {p p2 q pos : Pos}
theorem j_sortedSet (hu : X.A.units + 64 < cLine) (hm : X.mg "sorted" = none) (hm2 : X.mg "set" = none) (h : JE X a ρ fun d ρ1 => ∃ ks : List Key, d = .lst (ks.map keyD) ∧ ks.length ≤ 4000 ∧ ∀ L : List Key, L.Nodup → (∀ k, k ∈ L ↔ k ∈ ks) → CanSort (L.map keyD) ∧ R (.lst (sortD (L.map keyD))) ρ1)
    (hg : Gl X "sorted" := by rfl) (hg2 : Gl X "set" := by rfl) (hc : X.calm = true := by rfl) (na : starEach [a] X.env = (false, eval a X.env) :: starEach [] X.env := by rfl) : JE X (.Call (.Name "sorted" p) [.Call (.Name "set" p2) [a] [] q] [] pos) ρ R := fun C F σ H Q r k => by
  refine ⟨fun pins s I => ?_⟩
  refine PyProof.Rows.Call_ (ld_blt I hg hm (by decide +kernel : bootBuiltins "sorted" = some (.builtin "sorted")) ?_)
  refine PyProof.Rows.callWith_builtin1 (PyProof.Rows.args_cons (PyProof.Rows.Call_ (ld_blt I hg2 hm2 (by decide +kernel : bootBuiltins "set" = some (.type "set")) (PyProof.Rows.callWith_type1 (PyProof.Rows.args_cons (thn ((h.out r).run pins s I) fun v s1 ⟨x, H1, I1, r1, d, ρ1, F1, ⟨ks, ed, hks, q1⟩, e1, rp, i1⟩ => PyProof.Rows.args_nil ?_) na) na rfl))) rfl) rfl rfl
  subst ed
  obtain ⟨l, xs, rfl, hl, hi⟩ := TV.lst (P := X.prog) (w := X.w) rp.part (.inl i1)
  cases r1
  obtain ⟨its, rv, pl, hz⟩ := I1.list (SqL.of hl)
  obtain ⟨hlen, hit⟩ := keys_items hi rv
  refine call_kset ks (I1.ok.hd hc) pl.isList (by rw [List.size_toArray, hlen]) (fun i v hv => hit i v (by simpa using hv)) (by unfold scanBound; omega) fun h' tk c hS _ hk => PyProof.Rows.args_nil ?_
  have I2 : Inv X pins σ H1 { s1 with heap := h', toks := tk } := I1.kept hk
  refine sorted_kset hu hc I2 hS F1 fun L nd hm => ?_
  obtain ⟨can, qq⟩ := q1 L nd hm
  refine ⟨can, fun ys p hp hys => ?_⟩
  obtain ⟨r2, e2⟩ := rp.new (.lst ys) hp
  exact k _ ρ1 _ _ _ qq (e1.trans e2) r2 (.lst upd_same (hys.mono e2))
theorem j_lenSet (hm : X.mg "len" = none) (hm2 : X.mg "set" = none) (h : JE X a ρ fun d ρ1 => ∃ ks : List Key, d = .lst (ks.map keyD) ∧ ks.length ≤ 4000 ∧ ∀ L : List Key, L.Nodup → (∀ k, k ∈ L ↔ k ∈ ks) → R (.int L.length) ρ1)
    (hg : Gl X "len" := by rfl) (hg2 : Gl X "set" := by rfl) (hc : X.calm = true := by rfl) (na : starEach [a] X.env = (false, eval a X.env) :: starEach [] X.env := by rfl) : JE X (.Call (.Name "len" p) [.Call (.Name "set" p2) [a] [] q] [] pos) ρ R := fun C F σ H Q r k => by
  refine ⟨fun pins s I => ?_⟩
  refine PyProof.Rows.Call_ (ld_blt I hg hm boot_len ?_)
  refine PyProof.Rows.callWith_builtin1 (PyProof.Rows.args_cons (PyProof.Rows.Call_ (ld_blt I hg2 hm2 (by decide +kernel : bootBuiltins "set" = some (.type "set")) (PyProof.Rows.callWith_type1 (PyProof.Rows.args_cons (thn ((h.out r).run pins s I) fun v s1 ⟨x, H1, I1, r1, d, ρ1, F1, ⟨ks, ed, hks, q1⟩, e1, rp, i1⟩ => PyProof.Rows.args_nil ?_) na) na rfl))) rfl) rfl rfl
  subst ed
  obtain ⟨l, xs, rfl, hl, hi⟩ := TV.lst (P := X.prog) (w := X.w) rp.part (.inl i1)
  cases r1
  obtain ⟨its, rv, pl, hz⟩ := I1.list (SqL.of hl)
  obtain ⟨hlen, hit⟩ := keys_items hi rv
  refine call_kset ks (I1.ok.hd hc) pl.isList (by rw [List.size_toArray, hlen]) (fun i v hv => hit i v (by simpa using hv)) (by unfold scanBound; omega) fun h' tk c hS hc2 hk => PyProof.Rows.args_nil ?_
  have I2 : Inv X pins σ H1 { s1 with heap := h', toks := tk } := I1.kept hk
  obtain ⟨o, es, ep, t, ho, hex, hd, g, nd, hm, hb, hf, hn, hr, hl⟩ := hS
  have q2 := q1 (es.toList.map kOf) nd fun k => (hm k).symm
  rw [List.length_map, Array.length_toList] at q2
  exact call_len_set ho hex hd hf (by omega) ⟨.int es.size, H1, I2.tok _, ⟨_, rfl⟩, k _ ρ1 _ F1 H1 q2 e1 rp (.int _)⟩
end
end DL

set_option Elab.async false
set_option linter.all false
set_option maxRecDepth 100000
set_option autoImplicit false
/-! E0: the defs of the text, by their places. -/
namespace DL
open PySem PySem.Spec L2

def top (i : Nat) : Stmt := PySem.Challenge.pw_warden_k46_whole_schemas_told_otherwise.main.body.getD i (.Pass ⟨0, 0, 0, 0⟩)
/-- the def stands under its name -/
structure Has (K : PySem.W.Frag) (mg : Str → Option Value) (x : Str) (st : Stmt) (ps : List Str) : Prop where
  ex : ∃ (f : Addr) (fd : FuncData), Fun K x x st f fd ∧ mg x = some (.ref f) ∧ Binds K fd ps []
/-- the context of a def's body -/
abbrev CB (P : Program) (w : World) (K : PySem.W.Frag) (mg : Str → Option Value) (base : Heap) (N : List Str) (x : Str) (st : Stmt) (f : Addr) (cdv : Value) (A : Around) (outer : List PySem.Env) (s : Shared) (H : Hp) (E : XK) : Cx := (cxOf CX0 P w K mg base N x (defScope st) f cdv A outer s H E).nox
section
variable {P : Program} {w : World} {K : PySem.W.Frag} {mg : Str → Option Value} {base : Heap}
theorem def_D {x : Str} {st : Stmt} {ps : List Str} {k : Nat} {S : FS} (h : Has K mg x st ps) (N : List Str) (sc : FnScope N ps (defScope st)) (hlen : ∀ as R, S as R → as.length = ps.length)
    (hbody : ∀ (f : Addr) (cdv : Value) (A : Around) (outer : List PySem.Env) (s : Shared) (H : Hp) (E : XK) (as : List Arg) (R : Dt → List Dt → Prop), Room k (CB P w K mg base N x st f cdv A outer s H E).A → (CB P w K mg base N x st f cdv A outer s H E).A.units + 64 < cLine → (CB P w K mg base N x st f cdv A outer s H E).N.Nodup → S as R →
      JS (CB P w K mg base N x st f cdv A outer s H E) (defBody st) (env0 N.length as) { nx := fun ρ => ∃ cs, outs 0 0 as ρ = some cs ∧ R .non cs, rt := fun d ρ => ∃ cs, outs 0 0 as ρ = some cs ∧ R d cs }) : DefOk P w K mg base x (k + 1) S := by
  obtain ⟨f, fd, F, hm, hb⟩ := h.ex
  exact .mk' (fn_D F sc hlen fun X cdv A outer s H E as R e hr hS => by subst e; exact hbody f cdv A outer s H E as R hr hr.units sc.nd hS) hm F.kp hb
end
/-- the built-ins and constants that the text's defs see -/
structure Names (mg : Str → Option Value) : Prop where
  isi : mg "isinstance" = none
  str : mg "str" = none
  len : mg "len" = none
  range : mg "range" = none
  sorted : mg "sorted" = none
  list : mg "list" = none
  tuple : mg "tuple" = none
  set : mg "set" = none
  any : mg "any" = none
  sum : mg "sum" = none
  int : mg "int" = none
  small : ∃ t, mg "SMALL" = some (.str "abcdefghijklmnopqrstuvwxyz" t)
  states : ∃ t, mg "MOST_STATES" = some (.int 100 t)
  sets : ∃ t, mg "MOST_SETS" = some (.int 100 t)
/-! ### pure tests; joins -/
section
variable {X : Cx} {ρ : Env} {R : DP} {D : DEnd} {pos : Pos} {a b c e : Expr} {tt ff : List Stmt}
/-- a test that answers c and leaves the names as they are -/
abbrev Pu (c : Bool) (ρ : Env) : Bool → Env → Prop := fun c' ρ' => c' = c ∧ ρ' = ρ
abbrev PuE (d : Dt) (ρ : Env) : DP := fun d' ρ' => d' = d ∧ ρ' = ρ
theorem jwb_or1 {ca : Bool} (h : JT X a ρ (Pu ca ρ)) : JW X (.BoolOp .Or [a] pos) ρ (Pu ca ρ) := jw_or1 h
theorem jwb_and1 {ca : Bool} (h : JT X a ρ (Pu ca ρ)) : JW X (.BoolOp .And [a] pos) ρ (Pu ca ρ) := jw_and1 h
theorem jwb_or {ca cb : Bool} {rest : List Expr} (h : JT X a ρ (Pu ca ρ)) (h2 : ca = false → JW X (.BoolOp .Or (b :: rest) pos) ρ (Pu cb ρ)) : JW X (.BoolOp .Or (a :: b :: rest) pos) ρ (Pu (ca || cb) ρ) :=
  jw_or (h.imp fun c ρ' ⟨e1, e2⟩ => by
    subst e1 e2
    refine ⟨fun hc => ?_, fun hc => ?_⟩
    · rw [hc, Bool.false_or]; exact h2 hc
    · rw [hc, Bool.true_or]; exact ⟨rfl, rfl⟩)
theorem jwb_and {ca cb : Bool} {rest : List Expr} (h : JT X a ρ (Pu ca ρ)) (h2 : ca = true → JW X (.BoolOp .And (b :: rest) pos) ρ (Pu cb ρ)) : JW X (.BoolOp .And (a :: b :: rest) pos) ρ (Pu (ca && cb) ρ) :=
  jw_and (h.imp fun c ρ' ⟨e1, e2⟩ => by
    subst e1 e2
    refine ⟨fun hc => ?_, fun hc => ?_⟩
    · rw [hc, Bool.true_and]; exact h2 hc
    · rw [hc, Bool.false_and]; exact ⟨rfl, rfl⟩)
theorem jtb_bool {op : BoolOp} {es : List Expr} {ca : Bool} {R : Bool → Env → Prop} (h : JW X (.BoolOp op es pos) ρ (Pu ca ρ)) (q : R ca ρ) : JT X (.BoolOp op es pos) ρ R :=
  jt_bool fun C F σ H Q r k => h C F σ H Q r fun b ρ' F' H' ⟨e1, e2⟩ => by subst e1 e2; exact k b ρ' F' H' q
/-- a or b, a and b: as values -/
theorem jb_or {ca cb : Bool} (h : JE X a ρ (PuE (.bl ca) ρ)) (h2 : ca = false → JE X b ρ (PuE (.bl cb) ρ)) (q : R (.bl (ca || cb)) ρ) : JE X (.BoolOp .Or [a, b] pos) ρ R :=
  j_or (h.imp fun d ρ' ⟨e1, e2⟩ => by
    subst e1 e2
    refine ⟨ca, rfl, fun hc => ?_, fun hc => ?_⟩
    · refine j_bone ((h2 hc).imp fun d ρ' ⟨e1, e2⟩ => ?_)
      subst e1 e2
      rw [hc, Bool.false_or] at q; exact q
    · rw [hc, Bool.true_or] at q; exact q)
theorem jb_and {ca cb : Bool} (h : JE X a ρ (PuE (.bl ca) ρ)) (h2 : ca = true → JE X b ρ (PuE (.bl cb) ρ)) (q : R (.bl (ca && cb)) ρ) : JE X (.BoolOp .And [a, b] pos) ρ R :=
  j_and (h.imp fun d ρ' ⟨e1, e2⟩ => by
    subst e1 e2
    refine ⟨ca, rfl, fun hc => ?_, fun hc => ?_⟩
    · refine j_bone ((h2 hc).imp fun d ρ' ⟨e1, e2⟩ => ?_)
      subst e1 e2
      rw [hc, Bool.true_and] at q; exact q
    · rw [hc, Bool.false_and] at q; exact q)
/-- if with a pure test -/
theorem t_ifB (b : Bool) (h : JT X c ρ (Pu b ρ)) (ht : b = true → JS X tt ρ D) (hf : b = false → JS X ff ρ D) : J1 X (.If c tt ff pos) ρ D :=
  t_if (h.imp fun c ρ' ⟨e1, e2⟩ => by subst e1 e2; exact ⟨ht, hf⟩)
/-- .. whose branches meet -/
theorem t_ifJ (M : Env → Prop) (b : Bool) (h : JT X c ρ (Pu b ρ)) (ht : b = true → JS X tt ρ { nx := M, rt := D.rt }) (hf : b = false → JS X ff ρ { nx := M, rt := D.rt }) (k : ∀ ρ', M ρ' → D.nx ρ') : J1 X (.If c tt ff pos) ρ D := fun C F σ H E r kk => by
  have := t_ifB (pos := pos) (D := { nx := M, rt := D.rt }) b h ht hf
  exact this C F σ H E r ⟨fun ρ' σ' F' H' q e r' => kk.nx ρ' σ' F' H' (k ρ' q) e r', kk.rt⟩
theorem JS.imp {sts : List Stmt} {D' : DEnd} (h : JS X sts ρ D') (h1 : ∀ ρ', D'.nx ρ' → D.nx ρ') (h2 : ∀ d ρ', D'.rt d ρ' → D.rt d ρ') : JS X sts ρ D := fun C F σ H E r kk =>
  h C F σ H E r ⟨fun ρ' σ' F' H' q e r' => kk.nx ρ' σ' F' H' (h1 ρ' q) e r', fun d ρ' σ' v F' H' q e r' i => kk.rt d ρ' σ' v F' H' (h2 d ρ' q) e r' i⟩
end
/-! ### walks by lists -/
theorem mget {α β : Type} {f : α → β} {l : List α} {i : Nat} {d : β} (h : (l.map f)[i]? = some d) : ∃ x, l[i]? = some x ∧ d = f x := by
  rw [List.getElem?_map] at h
  cases q : l[i]? with
  | none => rw [q] at h; cases h
  | some x => rw [q] at h; exact ⟨x, rfl, by cases h; rfl⟩
theorem sget {z : Str} {i : Nat} {d : Dt} (h : (signs z)[i]? = some d) : ∃ c, z.cps.toList[i]? = some c ∧ d = .str ⟨#[c]⟩ := mget h
theorem rget {lo c : Int} {n i : Nat} {d : Dt} (h : (rng lo c n)[i]? = some d) : i < n ∧ d = .int (lo + (i : Nat) * c) := by
  have hi : i < n := by
    by_cases q : i < n
    · exact q
    · rw [List.getElem?_eq_none (by rw [rng_len]; omega)] at h; cases h
  rw [rng_get hi] at h
  exact ⟨hi, by cases h; rfl⟩
theorem take_snoc {α : Type} {l : List α} {i : Nat} {x : α} (h : l[i]? = some x) : l.take (i + 1) = l.take i ++ [x] := by
  rw [List.take_add_one, h]; rfl
theorem fold_take {α β : Type} {f : β → α → β} {b : β} {l : List α} {i : Nat} {x : α} (h : l[i]? = some x) : (l.take (i + 1)).foldl f b = f ((l.take i).foldl f b) x := by
  rw [take_snoc h, List.foldl_append]; rfl
theorem atI_map {α : Type} {f : α → Dt} {l : List α} {i : Nat} {x : α} (h : l[i]? = some x) : L2.atI (l.map f) (i : Int) = some (f x) := atI_nat (by rw [List.getElem?_map, h]; rfl)
theorem nd0 : ([] : List Nat).Nodup := List.Pairwise.nil
theorem nd1 {i : Nat} : [i].Nodup := by simp
theorem nd2 {i j : Nat} (h : i ≠ j := by decide) : [i, j].Nodup := by simp [h]
end DL

set_option Elab.async false
set_option linter.all false
set_option maxRecDepth 100000
set_option autoImplicit false
/-! E1: what sorted gives: ints, texts, pairs (text, int). Ascending lists. -/
namespace DL
open PySem PySem.Spec L2

/-! ### ascending lists, by any order -/
section
variable {α : Type}
def Asc (le : α → α → Bool) (l : List α) : Prop := l.Pairwise fun a b => le a b = true ∧ a ≠ b
structure Ord (le : α → α → Bool) : Prop where
  tr : ∀ a b c, le a b = true → le b c = true → le a c = true
  tot : ∀ a b, (le a b || le b a) = true
  anti : ∀ a b, le a b = true → le b a = true → a = b
variable {le : α → α → Bool}
theorem asc_unique (O : Ord le) : ∀ {l m : List α}, Asc le l → Asc le m → (∀ x, x ∈ l ↔ x ∈ m) → l = m
  | [], [], _, _, _ => rfl
  | [], b :: m, _, _, h => absurd ((h b).mpr List.mem_cons_self) (by simp)
  | a :: l, [], _, _, h => absurd ((h a).mp List.mem_cons_self) (by simp)
  | a :: l, b :: m, hl, hm, h => by
    have hl' := List.pairwise_cons.mp hl
    have hm' := List.pairwise_cons.mp hm
    have e : a = b := by
      rcases List.mem_cons.mp ((h a).mp List.mem_cons_self) with e | ha
      · exact e
      rcases List.mem_cons.mp ((h b).mpr List.mem_cons_self) with e | hb
      · exact e.symm
      exact O.anti a b (hl'.1 b hb).1 (hm'.1 a ha).1
    subst e
    refine congrArg _ (asc_unique O hl'.2 hm'.2 fun x => ⟨fun hx => ?_, fun hx => ?_⟩)
    · rcases List.mem_cons.mp ((h x).mp (List.mem_cons_of_mem _ hx)) with e | q
      · exact absurd e.symm (hl'.1 x hx).2
      · exact q
    · rcases List.mem_cons.mp ((h x).mpr (List.mem_cons_of_mem _ hx)) with e | q
      · exact absurd e.symm (hm'.1 x hx).2
      · exact q
theorem Asc.nodup {l : List α} (h : Asc le l) : l.Nodup := h.imp fun ⟨_, n⟩ => n
theorem asc_sort (O : Ord le) {l : List α} (nd : l.Nodup) : Asc le (l.mergeSort le) := by
  have h1 := List.pairwise_mergeSort (le := le) O.tr O.tot l
  have h2 : (l.mergeSort le).Nodup := (List.mergeSort_perm l le).nodup_iff.mpr nd
  exact h1.and h2
theorem sort_asc {l : List α} (h : Asc le l) : l.mergeSort le = l := List.mergeSort_of_pairwise (h.imp fun q => q.1)
theorem Asc.filter {l : List α} (h : Asc le l) (p : α → Bool) : Asc le (l.filter p) := List.Pairwise.filter p h
theorem mem_sort {l : List α} {x : α} : x ∈ l.mergeSort le ↔ x ∈ l := List.mem_mergeSort
end
/-! ### the three orders -/
def leN (a b : Nat) : Bool := decide (a ≤ b)
def leS (a b : Str) : Bool := decide (a.cps.toList ≤ b.cps.toList)
def leP (p q : Str × Nat) : Bool := if p.1 = q.1 then decide (p.2 ≤ q.2) else leS p.1 q.1
theorem ordN : Ord leN := ⟨fun a b c h1 h2 => by simp [leN] at *; omega, fun a b => by simp [leN]; omega, fun a b h1 h2 => by simp [leN] at *; omega⟩
theorem str_eq {x y : Str} (h : x.cps.toList = y.cps.toList) : x = y := by
  cases x; cases y
  exact congrArg Str.mk (Array.toList_inj.mp h)
theorem ordS : Ord leS := ⟨fun a b c h1 h2 => by
    simp only [leS, decide_eq_true_eq] at *
    exact List.le_trans h1 h2, fun a b => by
    simp only [leS, Bool.or_eq_true, decide_eq_true_eq]
    exact List.le_total _ _, fun a b h1 h2 => by
    simp only [leS, decide_eq_true_eq] at *
    exact str_eq (List.le_antisymm h1 h2)⟩
theorem ordP : Ord leP := ⟨fun a b c h1 h2 => by
    unfold leP at *
    by_cases e1 : a.1 = b.1
    · by_cases e2 : b.1 = c.1
      · rw [if_pos e1] at h1
        rw [if_pos e2] at h2
        rw [if_pos (e1.trans e2)]
        simp at *; omega
      · rw [if_neg e2] at h2
        rw [e1, if_neg e2]; exact h2
    · by_cases e2 : b.1 = c.1
      · rw [if_neg e1] at h1
        rw [← e2, if_neg e1]; exact h1
      · rw [if_neg e1] at h1
        rw [if_neg e2] at h2
        by_cases e3 : a.1 = c.1
        · rw [← e3] at h2
          exact absurd (ordS.anti _ _ h1 h2) e1
        · rw [if_neg e3]; exact ordS.tr _ _ _ h1 h2, fun a b => by
    unfold leP
    by_cases e1 : a.1 = b.1
    · rw [if_pos e1, if_pos e1.symm]
      simp; omega
    · rw [if_neg e1, if_neg (Ne.symm e1)]
      exact ordS.tot _ _, fun a b h1 h2 => by
    unfold leP at *
    by_cases e1 : a.1 = b.1
    · rw [if_pos e1] at h1
      rw [if_pos e1.symm] at h2
      have : a.2 = b.2 := by simp at *; omega
      exact Prod.ext e1 this
    · rw [if_neg e1] at h1
      rw [if_neg (Ne.symm e1)] at h2
      exact absurd (ordS.anti _ _ h1 h2) e1⟩
/-! ### as data -/
def nD (n : Nat) : Dt := .int n
def pD (p : Str × Nat) : Dt := .tup [.str p.1, .int p.2]
theorem leN_dt (a b : Nat) : leN a b = PySem.W.dataLe false Dt.py (nD a) (nD b) := by
  show _ = !PySem.W.dataLt (Dt.py (nD b)) (Dt.py (nD a))
  simp only [nD, Dt.py, PySem.W.dataLt_int, leN]
  by_cases h : a ≤ b
  · rw [decide_eq_true h, decide_eq_false (by omega)]; rfl
  · rw [decide_eq_false h, decide_eq_true (by omega)]; rfl
theorem leS_dt (a b : Str) : leS a b = PySem.W.dataLe false Dt.py (.str a) (.str b) := by
  show _ = !PySem.W.dataLt (Dt.py (.str b)) (Dt.py (.str a))
  simp only [Dt.py, PySem.W.dataLt_str, leS]
  rw [← decide_not]
  exact decide_eq_decide.mpr Iff.rfl
theorem eqv_str (x y : Str) : PyData.eqv (.str x) (.str y) = decide (x = y) := by
  unfold PyData.eqv
  by_cases h : x = y
  · subst h; simp
  · rw [decide_eq_false h]; simpa using h
theorem eqv_int (x y : Int) : PyData.eqv (.int x) (.int y) = decide (x = y) := by
  unfold PyData.eqv
  by_cases h : x = y
  · subst h; simp
  · rw [decide_eq_false h]; simpa using h
theorem leP_dt (a b : Str × Nat) : leP a b = PySem.W.dataLe false Dt.py (pD a) (pD b) := by
  show _ = !PySem.W.dataLt (Dt.py (pD b)) (Dt.py (pD a))
  simp only [pD, Dt.py, pys]
  rw [PySem.W.dataLt_pair rfl rfl, eqv_str, eqv_int]
  unfold leP
  by_cases e : a.1 = b.1
  · rw [if_pos e, if_pos (by simp [e])]
    rw [PySem.W.dataLt_int]
    by_cases h : a.2 = b.2
    · rw [if_pos (by simp [h]), decide_eq_true (by omega)]; rfl
    · rw [if_neg (by simp; omega)]
      by_cases h2 : a.2 ≤ b.2
      · rw [decide_eq_true h2, decide_eq_false (by omega)]; rfl
      · rw [decide_eq_false h2, decide_eq_true (by omega)]; rfl
  · rw [if_neg e, if_neg (by simpa using Ne.symm e)]
    rw [PySem.W.dataLt_str, leS, ← decide_not]
    exact decide_eq_decide.mpr Iff.rfl
theorem sortD_of {α : Type} {le : α → α → Bool} {f : α → Dt} (h : ∀ a b, le a b = PySem.W.dataLe false Dt.py (f a) (f b)) (L : List α) : sortD (L.map f) = (L.mergeSort le).map f :=
  (PySem.W.sort_maps f fun a _ b _ => h a b).symm
theorem can_of {α : Type} {f : α → Dt} {L : List α} (h1 : ∀ a, (f a).plain = true) (h2 : ∀ a b, PySem.W.alike (f a).py (f b).py = true) (h3 : (∀ a, ∃ x r, (f a).py = .tuple (x :: r)) ∨ ∀ a, (f a).py ≠ .none ∧ ∀ xs, (f a).py ≠ .tuple xs) (h4 : ∀ a, (f a).py.depth ≤ 8) (h5 : L.length ≤ sizeLine) : CanSort (L.map f) := by
  refine ⟨fun d hd => ?_, fun d hd d' hd' => ?_, ?_, by rw [List.length_map]; exact h5, fun d hd => ?_⟩
  · obtain ⟨a, _, rfl⟩ := List.mem_map.mp hd; exact h1 a
  · obtain ⟨d1, q, rfl⟩ := List.mem_map.mp hd
    obtain ⟨a, _, rfl⟩ := List.mem_map.mp q
    obtain ⟨d2, q, rfl⟩ := List.mem_map.mp hd'
    obtain ⟨b, _, rfl⟩ := List.mem_map.mp q
    exact h2 a b
  · rcases h3 with h3 | h3
    · refine .inl fun d hd => ?_
      obtain ⟨d1, q, rfl⟩ := List.mem_map.mp hd
      obtain ⟨a, _, rfl⟩ := List.mem_map.mp q
      exact h3 a
    · refine .inr fun d hd => ?_
      obtain ⟨d1, q, rfl⟩ := List.mem_map.mp hd
      obtain ⟨a, _, rfl⟩ := List.mem_map.mp q
      exact h3 a
  · obtain ⟨a, _, rfl⟩ := List.mem_map.mp hd; exact h4 a
theorem canN {L : List Nat} (h : L.length ≤ sizeLine) : CanSort (L.map nD) := can_of (fun _ => rfl) (fun _ _ => rfl) (.inr fun a => by simp [nD, Dt.py]) (fun a => by simp [nD, Dt.py, PyData.depth]) h
theorem canS {L : List Str} (h : L.length ≤ sizeLine) : CanSort (L.map Dt.str) := can_of (fun _ => rfl) (fun _ _ => rfl) (.inr fun a => by simp [Dt.py]) (fun a => by simp [Dt.py, PyData.depth]) h
theorem canP {L : List (Str × Nat)} (h : L.length ≤ sizeLine) : CanSort (L.map pD) := can_of (fun _ => rfl) (fun _ _ => rfl) (.inl fun a => ⟨.str a.1, [.int a.2], by simp only [pD, Dt.py, pys]⟩) (fun a => by simp [pD, Dt.py, pys, PyData.depth, PyData.depthAll]) h
theorem sortN (L : List Nat) : sortD (L.map nD) = (L.mergeSort leN).map nD := sortD_of leN_dt L
theorem sortS (L : List Str) : sortD (L.map Dt.str) = (L.mergeSort leS).map Dt.str := sortD_of leS_dt L
theorem sortP (L : List (Str × Nat)) : sortD (L.map pD) = (L.mergeSort leP).map pD := sortD_of leP_dt L

/-! ### sets of ints, of texts -/
def kN (n : Nat) : Key := .inl n
def kS (x : Str) : Key := .inr x
theorem kN_inj {a b : Nat} (h : kN a = kN b) : a = b := by
  have : (a : Int) = b := Sum.inl.inj h
  omega
theorem kS_inj {a b : Str} (h : kS a = kS b) : a = b := by simpa [kS] using h
theorem back_map {α β : Type} {f : α → β} : ∀ {L : List β}, (∀ k ∈ L, ∃ a, k = f a) → ∃ M : List α, L = M.map f
  | [], _ => ⟨[], rfl⟩
  | k :: L, h => by
    obtain ⟨a, e⟩ := h k List.mem_cons_self
    obtain ⟨M, e2⟩ := back_map (L := L) fun k hk => h k (List.mem_cons_of_mem _ hk)
    exact ⟨a :: M, by rw [e, e2]; rfl⟩
theorem nodup_of_map {α β : Type} {f : α → β} {M : List α} (h : (M.map f).Nodup) : M.Nodup := by
  rw [List.Nodup, List.pairwise_map] at h
  exact h.imp fun n e => n (congrArg f e)
theorem nodup_map {α β : Type} {f : α → β} (hf : ∀ a b, f a = f b → a = b) {M : List α} (h : M.Nodup) : (M.map f).Nodup := by
  rw [List.Nodup, List.pairwise_map]
  exact h.imp fun n e => n (hf _ _ e)
theorem set_back {α : Type} {f : α → Key} (hf : ∀ a b, f a = f b → a = b) {ns : List α} {L : List Key} (nd : L.Nodup) (h : ∀ k, k ∈ L ↔ k ∈ ns.map f) : ∃ M : List α, L = M.map f ∧ M.Nodup ∧ ∀ x, x ∈ M ↔ x ∈ ns := by
  obtain ⟨M, rfl⟩ := back_map (f := f) (L := L) fun k hk => by
    obtain ⟨a, _, e⟩ := List.mem_map.mp ((h k).mp hk)
    exact ⟨a, e.symm⟩
  refine ⟨M, rfl, nodup_of_map nd, fun x => ⟨fun hx => ?_, fun hx => ?_⟩⟩
  · obtain ⟨a, ha, e⟩ := List.mem_map.mp ((h (f x)).mp (List.mem_map.mpr ⟨x, hx, rfl⟩))
    exact hf _ _ e ▸ ha
  · obtain ⟨a, ha, e⟩ := List.mem_map.mp ((h (f x)).mpr (List.mem_map.mpr ⟨x, hx, rfl⟩))
    exact (hf a x e) ▸ ha
theorem le_of_sub {α : Type} [DecidableEq α] : ∀ {M ns : List α}, M.Nodup → (∀ x ∈ M, x ∈ ns) → M.length ≤ ns.length
  | [], _, _, _ => Nat.zero_le _
  | a :: M, ns, nd, h => by
    have nd' := List.nodup_cons.mp nd
    have := le_of_sub (M := M) (ns := ns.erase a) nd'.2 fun x hx => (List.mem_erase_of_ne (show x ≠ a from fun e => nd'.1 (e ▸ hx))).mpr (h x (List.mem_cons_of_mem _ hx))
    have ha := h a List.mem_cons_self
    rw [List.length_erase_of_mem ha] at this
    have := List.length_pos_of_mem ha
    simp only [List.length_cons]
    omega
/-- sorted(set(ints)) -/
theorem set_sortN {ns : List Nat} (hz : ns.length ≤ sizeLine) {R : Dt → Prop} (q : ∀ M : List Nat, Asc leN M → (∀ x, x ∈ M ↔ x ∈ ns) → R (.lst (M.map nD))) : ∀ L : List Key, L.Nodup → (∀ k, k ∈ L ↔ k ∈ ns.map kN) → CanSort (L.map keyD) ∧ R (.lst (sortD (L.map keyD))) := fun L nd h => by
  obtain ⟨M, rfl, nm, hm⟩ := set_back (fun _ _ => kN_inj) nd h
  have e : (M.map kN).map keyD = M.map nD := by rw [List.map_map]; rfl
  rw [e, sortN]
  exact ⟨canN (Nat.le_trans (le_of_sub nm fun x hx => (hm x).mp hx) hz), q _ (asc_sort ordN nm) fun x => mem_sort.trans (hm x)⟩
theorem set_sortS {ns : List Str} (hz : ns.length ≤ sizeLine) {R : Dt → Prop} (q : ∀ M : List Str, Asc leS M → (∀ x, x ∈ M ↔ x ∈ ns) → R (.lst (M.map Dt.str))) : ∀ L : List Key, L.Nodup → (∀ k, k ∈ L ↔ k ∈ ns.map kS) → CanSort (L.map keyD) ∧ R (.lst (sortD (L.map keyD))) := fun L nd h => by
  obtain ⟨M, rfl, nm, hm⟩ := set_back (fun _ _ => kS_inj) nd h
  have e : (M.map kS).map keyD = M.map Dt.str := by rw [List.map_map]; rfl
  rw [e, sortS]
  exact ⟨canS (Nat.le_trans (le_of_sub nm fun x hx => (hm x).mp hx) hz), q _ (asc_sort ordS nm) fun x => mem_sort.trans (hm x)⟩
theorem keysN (ns : List Nat) : ns.map nD = (ns.map kN).map keyD := by rw [List.map_map]; rfl
theorem keysS (ns : List Str) : ns.map Dt.str = (ns.map kS).map keyD := by rw [List.map_map]; rfl
end DL

set_option Elab.async false
set_option linter.all false
set_option maxRecDepth 100000
set_option autoImplicit false
/-! E2: comprehensions that leave the names as they are: map and filter. -/
namespace DL
open PySem PySem.Spec L2
section
variable {X : Cx} {ρ : Env} {R : DP} {D : DEnd} {pos p : Pos} {tg iter elt : Expr} {ifs : List Expr} {scope : Scope}
/-- one turn that adds f x where p x, and leaves the names -/
abbrev TurnP (X : Cx) (scope : Scope) (tg elt : Expr) (ifs : List Expr) (vs : List Nat) (d : Dt) (ρ : Env) (c : Bool) (y : Dt) : Prop :=
  Turn1 X scope tg elt ifs vs d ρ fun o ρ2 => unAt ρ2 vs = ρ ∧ o = if c = true then some y else none
theorem filter_take {α : Type} {p : α → Bool} {f : α → Dt} {xs : List α} {i : Nat} {x : α} (h : xs[i]? = some x) : ((xs.take (i + 1)).filter p).map f = ((xs.take i).filter p).map f ++ (if p x = true then some (f x) else none).toList := by
  rw [take_snoc h, List.filter_append, List.map_append]
  congr 1
  by_cases q : p x = true
  · rw [if_pos q]; simp [q]
  · rw [if_neg q]; simp [q]
/-- what the rules of comprehensions ask, for such turns -/
theorem comp_inv {α : Type} {xs : List α} {enc : α → Dt} {p : α → Bool} {f : α → Dt} {vs : List Nat} {ρ0 : Env} {R : DP} (hz : xs.length ≤ sizeLine)
    (ht : ∀ x, x ∈ xs → TurnP X scope tg elt ifs vs (enc x) ρ0 (p x) (f x)) (q : R (.lst ((xs.filter p).map f)) ρ0) {ds : List Dt} (eds : ds = xs.map enc) {ρ1 : Env} (e1 : unAt ρ1 vs = ρ0) :
    ∃ I : Nat → List Dt → Env → Prop, ds.length ≤ sizeLine ∧ I 0 [] (unAt ρ1 vs) ∧
      (∀ i d acc ρ', ds[i]? = some d → UnIn ρ' vs → I i acc ρ' → Turn1 X scope tg elt ifs vs d ρ' fun o ρ2 => I (i + 1) (acc ++ o.toList) (unAt ρ2 vs)) ∧ ∀ acc ρ', UnIn ρ' vs → I ds.length acc ρ' → R (.lst acc) ρ' := by
  subst eds
  refine ⟨fun i acc ρ' => acc = ((xs.take i).filter p).map f ∧ ρ' = ρ0, by rw [List.length_map]; exact hz, ⟨by simp, e1⟩, fun i d acc ρ' hd hu ⟨ea, er⟩ => ?_, fun acc ρ' hu ⟨ea, er⟩ => ?_⟩
  · subst ea er
    obtain ⟨x, hx, rfl⟩ := mget hd
    refine fun s H C cl fp => ?_
    intro C' F σ H' v Q r i1 k
    refine ht x (List.mem_of_getElem? hx) s H C cl fp C' F σ H' v Q r i1 fun ρ1 σ' F' H2 h1 e2 r2 w2 => k ρ1 σ' F' H2 ?_ e2 r2 w2
    refine fun s H C cl fp => ?_
    intro C' F σ H' Q r k
    refine h1 s H C cl fp C' F σ H' Q r fun b ρ2 F' H2 h2 e2 r2 => k b ρ2 F' H2 ?_ e2 r2
    refine ⟨fun hb => ?_, fun hb => ?_⟩
    · refine fun s H C cl fp => (h2.1 hb s H C cl fp).imp fun y ρ3 ⟨a1, a2⟩ => ⟨?_, a1⟩
      rw [filter_take hx, ← a2]
    · obtain ⟨a1, a2⟩ := h2.2 hb
      refine ⟨?_, a1⟩
      rw [filter_take hx, ← a2]
  · subst ea er
    rw [List.length_map, List.take_length]
    exact q
theorem n_comp (own : List (Str × Nat)) {α : Type} (xs : List α) (enc : α → Dt) (p : α → Bool) (f : α → Dt) (hi : JI X tg iter ρ fun ds ρ1 => ds = xs.map enc ∧ ρ1 = ρ) (hz : xs.length ≤ sizeLine)
    (ht : ∀ x, x ∈ xs → TurnP X scope tg elt ifs (own.map (·.2)) (enc x) (unAt ρ (own.map (·.2))) (p x) (f x)) (q : R (.lst ((xs.filter p).map f)) (unAt ρ (own.map (·.2))))
    (hN : X.N.Nodup) (ok : BlkOk X.N X.env.scope scope own) (hc : X.calm = true := by rfl) (hs : ∀ x, foldedSetIterable iter X.env x = pure x := by intro _; rfl) : JN X (.ListComp elt [⟨tg, iter, ifs, 0⟩] scope pos) ρ R :=
  n_lc own (fun C F σ H Q r k => hi C F σ H Q r fun ds ρ1 J F1 H1 ⟨ed, er⟩ e1 r1 it => k ds ρ1 J F1 H1 (comp_inv hz ht q ed (by rw [er])) e1 r1 it) hN ok hc hs
/-- .. shared at once -/
theorem j_comp (own : List (Str × Nat)) {α : Type} (xs : List α) (enc : α → Dt) (p : α → Bool) (f : α → Dt) (hi : JI X tg iter ρ fun ds ρ1 => ds = xs.map enc ∧ ρ1 = ρ) (hz : xs.length ≤ sizeLine)
    (ht : ∀ x, x ∈ xs → TurnP X scope tg elt ifs (own.map (·.2)) (enc x) (unAt ρ (own.map (·.2))) (p x) (f x)) (q : R (.lst ((xs.filter p).map f)) (unAt ρ (own.map (·.2))))
    (hN : X.N.Nodup) (ok : BlkOk X.N X.env.scope scope own) (hc : X.calm = true := by rfl) (hs : ∀ x, foldedSetIterable iter X.env x = pure x := by intro _; rfl) : JE X (.ListComp elt [⟨tg, iter, ifs, 0⟩] scope pos) ρ R :=
  (j_new (n_comp (R := fun d ρ' => d = .lst ((xs.filter p).map f) ∧ R d ρ') own xs enc p f hi hz ht ⟨rfl, q⟩ hN ok hc hs) (fun d ρ' ⟨e, _⟩ kvs z => by rw [e] at z; cases z)).imp fun d ρ' h => h.2
/-- name = [..] -/
theorem t_asgComp (i : Nat) (own : List (Str × Nat)) {y : Str} {py : Pos} {spos : Pos} {α : Type} (xs : List α) (enc : α → Dt) (p : α → Bool) (f : α → Dt) (hi : JI X tg iter ρ fun ds ρ1 => ds = xs.map enc ∧ ρ1 = ρ) (hz : xs.length ≤ sizeLine)
    (ht : ∀ x, x ∈ xs → TurnP X scope tg elt ifs (own.map (·.2)) (enc x) (unAt ρ (own.map (·.2))) (p x) (f x)) (q : D.nx ((unAt ρ (own.map (·.2))).set i (.own none (.lst ((xs.filter p).map f)))))
    (hN : X.N.Nodup) (ok : BlkOk X.N X.env.scope scope own) (hy : X.N[i]? = some y := by rfl) (hyl : X.env.scope.names.lookup y = some .local := by rfl)
    (hsw : swapsWith (.ListComp elt [⟨tg, iter, ifs, 0⟩] scope pos) (some (.Name y py)) spos.line X.env = pure true := by exact sw_true rfl rfl rfl (by decide +kernel)) (hc : X.calm = true := by rfl) (hs : ∀ x, foldedSetIterable iter X.env x = pure x := by intro _; rfl) :
    J1 X (.Assign [.Name y py] (.ListComp elt [⟨tg, iter, ifs, 0⟩] scope pos) spos) ρ D :=
  t_asgLc i own (fun C F σ H Q r k => hi C F σ H Q r fun ds ρ1 J F1 H1 ⟨ed, er⟩ e1 r1 it => k ds ρ1 J F1 H1 (comp_inv (R := fun d ρ' => ∃ acc, d = .lst acc ∧ D.nx (ρ'.set i (.own none d))) hz ht ⟨_, rfl, q⟩ ed (by rw [er]) |> fun ⟨I, a, b, c, e⟩ => ⟨I, a, b, c, fun acc ρ' hu h => (e acc ρ' hu h).elim fun _ z => z.2⟩) e1 r1 it) hN ok hy hyl hsw hc hs
/-- a turn without a test -/
theorem turn_id {vs : List Nat} {d y : Dt} (h : Bl X scope fun Y => JB Y tg d ρ vs fun ρ1 => Bl X scope fun Y => JE Y elt ρ1 fun d' ρ2 => d' = y ∧ unAt ρ2 vs = ρ) : TurnP X scope tg elt [] vs d ρ true y := fun s H C cl fp => by
  intro C' F σ H' v Q r i1 k
  refine h s H C cl fp C' F σ H' v Q r i1 fun ρ1 σ' F' H2 h1 e2 r2 w2 => k ρ1 σ' F' H2 ?_ e2 r2 w2
  refine fun s H C cl fp => ts_nil ⟨fun _ s H C cl fp => (h1 s H C cl fp).imp fun d' ρ2 ⟨a, b⟩ => ⟨b, by rw [a, if_pos rfl]⟩, fun h => by cases h⟩
/-- .. with one -/
theorem turn_if {vs : List Nat} {d y : Dt} {e : Expr} (c : Bool) (h : Bl X scope fun Y => JB Y tg d ρ vs fun ρ1 => (Bl X scope fun Y => JT Y e ρ1 (Pu c ρ1)) ∧ (c = true → Bl X scope fun Y => JE Y elt ρ1 fun d' ρ2 => d' = y ∧ unAt ρ2 vs = ρ) ∧ (c = false → unAt ρ1 vs = ρ)) : TurnP X scope tg elt [e] vs d ρ c y := fun s H C cl fp => by
  intro C' F σ H' v Q r i1 k
  refine h s H C cl fp C' F σ H' v Q r i1 fun ρ1 σ' F' H2 ⟨h1, h3, h4⟩ e2 r2 w2 => k ρ1 σ' F' H2 ?_ e2 r2 w2
  refine fun s H C cl fp => ts_one ((h1 s H C cl fp).imp fun b ρ2 ⟨a1, a2⟩ => ?_)
  subst a1 a2
  refine ⟨fun hb s H C cl fp => (h3 hb s H C cl fp).imp fun d' ρ2 ⟨a, b⟩ => ⟨b, by rw [a, if_pos hb]⟩, fun hb => ⟨h4 hb, by rw [hb]; rfl⟩⟩
end
theorem filt_true {α : Type} (l : List α) : l.filter (fun _ => true) = l := by simp
theorem blk (N : List Str) (sc : Scope) {scope : Scope} {own : List (Str × Nat)} (h : blkC N sc scope own = true) : BlkOk N sc scope own := blkOk_by h
end DL

set_option Elab.async false
set_option linter.all false
set_option maxRecDepth 100000
set_option autoImplicit false
/-! E3: texts; trees, machines as data; the defs of trees and machines. -/
namespace DL
open PySem PySem.Spec L2

/-! ### texts -/
theorem colon : (":" : Str) = ⟨#[58]⟩ := by decide +kernel
def SMALL : Str := "abcdefghijklmnopqrstuvwxyz"
def allOf (z sg : Str) (m : Int) : Bool := decide (1 ≤ (z.length : Int)) && decide ((z.length : Int) ≤ m) && z.cps.toList.all fun c => decide (c ∈ sg.cps.toList)
def tagOk (z : Str) : Prop := allOf z SMALL 8 = true
def isLab (z : Str) : Prop := tagOk z ∨ ∃ t, tagOk t ∧ z = t ++ ":"
theorem tag_len {z : Str} (h : tagOk z) : 1 ≤ z.length ∧ z.length ≤ 8 := by
  unfold tagOk allOf at h
  simp only [Bool.and_eq_true, decide_eq_true_eq] at h
  omega
theorem tag_ne {z : Str} (h : tagOk z) (c : Nat) (hc : c ∈ z.cps.toList) : c ≠ 58 := by
  unfold tagOk allOf at h
  simp only [Bool.and_eq_true, List.all_eq_true, decide_eq_true_eq] at h
  have h1 := h.2 c hc
  intro e
  subst e
  revert h1
  decide +kernel
theorem snoc_of {z : Str} (h : 1 ≤ z.length) : ∃ l c, z.cps.toList = l ++ [c] := by
  have : z.cps.toList ≠ [] := fun e => by
    have : z.cps.toList.length = 0 := by rw [e]; rfl
    have e2 : z.length = z.cps.size := rfl
    rw [Array.length_toList] at this
    omega
  exact ⟨_, _, (List.dropLast_concat_getLast this).symm⟩
theorem cut_last {z : Str} {l : List Nat} {c : Nat} (h : z.cps.toList = l ++ [c]) : cutS z (some (-1)) none = ⟨#[c]⟩ := by
  have hl : z.length = l.length + 1 := by
    show z.cps.size = _
    rw [← Array.length_toList, h]; simp
  unfold cutS
  have e : HT.sIx z.length 0 (some (-1)) = l.length := by
    show (if (-1 : Int) < 0 then ((-1 : Int) + (z.length : Int)).toNat else min (-1 : Int).toNat z.length) = _
    rw [if_pos (by decide)]; omega
  rw [e, HT.sIx_none, h, List.drop_left' rfl, hl]
  simp
theorem cut_init {z : Str} {l : List Nat} {c : Nat} (h : z.cps.toList = l ++ [c]) : cutS z none (some (-1)) = ⟨l.toArray⟩ := by
  have hl : z.length = l.length + 1 := by
    show z.cps.size = _
    rw [← Array.length_toList, h]; simp
  unfold cutS
  have e : HT.sIx z.length z.length (some (-1)) = l.length := by
    show (if (-1 : Int) < 0 then ((-1 : Int) + (z.length : Int)).toNat else min (-1 : Int).toNat z.length) = _
    rw [if_pos (by decide)]; omega
  rw [e, HT.sIx_none, h]
  simp
theorem snoc_colon (t : Str) : (t ++ ":" : Str).cps.toList = t.cps.toList ++ [58] := by
  rw [colon, Str.cps_append]; simp
theorem str_arr (t : Str) : (⟨t.cps.toList.toArray⟩ : Str) = t := by simp
theorem len_colon (t : Str) : (t ++ ":" : Str).length = t.length + 1 := by rw [Str.length_append, colon]; rfl
theorem szl : sizeLine = 16777216 := by decide
theorem small9 {n : Nat} (h : n ≤ 1000) : n ≤ sizeLine := Nat.le_trans h (by decide)
/-! ### trees -/
inductive Tr where
  | node (tag word : Str) (kids : List Tr)
def Tr.kids : Tr → List Tr
  | .node _ _ ks => ks
def lab : Tr → Str
  | .node g w _ => if w = "" then g else g ++ ":"
mutual
def encT : Tr → Dt
  | .node g w ks => .tup [.str g, .str w, .tup (encTs ks)]
def encTs : List Tr → List Dt
  | [] => []
  | t :: ts => encT t :: encTs ts
end
theorem encTs_eq : ∀ ts : List Tr, encTs ts = ts.map encT
  | [] => by simp [encTs]
  | t :: ts => by simp [encTs, encTs_eq ts]
def tagLen : Tr → Nat
  | .node g _ _ => g.length
/-! ### machines -/
structure Mach where
  starts : List (Str × Nat)
  steps : List (List Nat)
  good : List Nat
def rowD (r : List Nat) : Dt := .lst (r.map nD)
def encM (M : Mach) : Dt := .tup [.lst (M.starts.map pD), .lst (M.steps.map rowD), .lst (M.good.map nD)]
def Mach.n (M : Mach) : Nat := M.steps.length
def stepOf (steps : List (List Nat)) (p q : Nat) : Nat := (steps.getD p []).getD q 0
def Mach.δ (M : Mach) (p q : Nat) : Nat := stepOf M.steps p q
structure StepsOk (steps : List (List Nat)) : Prop where
  n1 : 1 ≤ steps.length
  n100 : steps.length ≤ 100
  rows : ∀ r ∈ steps, r.length = steps.length
  lt : ∀ r ∈ steps, ∀ x ∈ r, x < steps.length
  dead : ∀ q, stepOf steps 0 q = 0 ∧ stepOf steps q 0 = 0
structure StartsOk (starts : List (Str × Nat)) (n : Nat) : Prop where
  lab : ∀ x ∈ starts, isLab x.1 ∧ 1 ≤ x.2 ∧ x.2 < n
  asc : Asc leP starts
  nd : (starts.map (·.1)).Nodup
  few : starts.length ≤ 1000
structure GoodOk (good : List Nat) (n : Nat) : Prop where
  bd : ∀ x ∈ good, 1 ≤ x ∧ x < n
  asc : Asc leN good
structure WfM (M : Mach) : Prop where
  steps : StepsOk M.steps
  starts : StartsOk M.starts M.n
  good : GoodOk M.good M.n
theorem few_of_lab {starts : List (Str × Nat)} {n : Nat} (h : StartsOk starts n) : ∀ x ∈ starts, x.1.length ≤ 1000 := fun x hx => by
  rcases (h.lab x hx).1 with q | ⟨t, q, e⟩
  · have := tag_len q; omega
  · have := tag_len q; rw [e, len_colon]; omega
theorem step_at {steps : List (List Nat)} (h : ∀ r ∈ steps, r.length = steps.length) {p q : Nat} (hp : p < steps.length) (hq : q < steps.length) : ∃ r, steps[p]? = some r ∧ r ∈ steps ∧ r[q]? = some (stepOf steps p q) ∧ stepOf steps p q ∈ r := by
  have e1 : steps[p]? = some steps[p] := List.getElem?_eq_getElem hp
  have hm : steps[p] ∈ steps := List.getElem_mem hp
  have hl : q < (steps[p]).length := by rw [h _ hm]; exact hq
  have e2 : (steps[p])[q]? = some (stepOf steps p q) := by
    unfold stepOf
    rw [List.getD_eq_getElem?_getD, List.getD_eq_getElem?_getD, e1, Option.getD_some, List.getElem?_eq_getElem hl]
    rfl
  exact ⟨_, e1, hm, e2, List.mem_of_getElem? e2⟩
section
variable {P : Program} {w : World} {K : PySem.W.Frag} {mg : Str → Option Value} {base : Heap}
/-! ### the defs -/
def sAllOf : FS := fun as R => ∃ z sg m, as = [.val (.str z), .val (.str sg), .val (.int m)] ∧ z.length ≤ 1000 ∧ allOf z sg m = true ∧ R (.bl true) []
theorem d_all_of (M : Names mg) (h : Has K mg "all_of" (top 6) ["thing", "signs", "most"]) : DefOk P w K mg base "all_of" 1 sAllOf := by
  refine def_D h ["thing", "signs", "most", "sign"] ⟨rfl, rfl, rfl, by decide +kernel, rfl, by decide +kernel, by decide +kernel⟩ (fun as R ⟨z, sg, m, e, _⟩ => by subst e; rfl) fun f cdv A outer s H E as R hr hu nd ⟨z, sg, m, e, hz, ha, q⟩ => ?_
  subst e
  unfold allOf at ha
  simp only [Bool.and_eq_true, decide_eq_true_eq] at ha
  refine s_cons (t_ifB _ (jtb_bool (jwb_or (jt_not (jt_val (j_isStr M.isi M.str (j_nm 0 rfl ⟨_, rfl, ⟨_, rfl, ⟨rfl, rfl⟩⟩⟩)))) fun h => (jwb_or (jt_cmp (j_blt "len" M.len (by decide +kernel) (a_cons (v_val (j_nm 0 rfl (a_nil ⟨_, rfl, kd_lenS (small9 hz) (v_val (j_int ⟨_, rfl, cd_lt ⟨rfl, rfl⟩⟩))⟩)))))) fun h => (jwb_or1 (jt_cmp (j_blt "len" M.len (by decide +kernel) (a_cons (v_val (j_nm 0 rfl (a_nil ⟨_, rfl, kd_lenS (small9 hz) (v_val (j_nm 2 rfl ⟨_, rfl, cd_gt ⟨rfl, rfl⟩⟩))⟩))))))))) ⟨rfl, rfl⟩) (fun h => ?_) (fun h => ?_))
  · simp at h; omega
  refine s_nil ?_
  refine s_cons (t_for (i_str (j_nm 0 rfl ⟨_, rfl, fun i ρ => ∃ d, ρ = [.val (.str z), .val (.str sg), .val (.int m), d], ⟨_, rfl⟩, fun i d ρ hd ⟨_, e⟩ => ?_, fun ρ ⟨_, e⟩ => ?_⟩)))
  · subst e
    obtain ⟨c, hc, rfl⟩ := sget hd
    refine g_nm 3 ?_ nd
    refine s_cons (t_ifB _ (jt_cmp (j_nm 3 rfl (v_val (j_nm 1 rfl ⟨_, rfl, cd_notinC ⟨rfl, rfl⟩⟩)))) (fun h => ?_) (fun h => ?_))
    · have := List.all_eq_true.mp ha.2 c (List.mem_of_getElem? hc)
      rw [this] at h; cases h
    refine s_nil ?_
    exact s_nil ⟨_, rfl⟩
  · subst e
    exact s_cons (t_ret (j_bl ⟨_, rfl, q⟩))
def sIsTag : FS := fun as R => ∃ z, as = [.val (.str z)] ∧ tagOk z ∧ R (.bl true) []
theorem d_is_tag (M : Names mg) (D : DefOk P w K mg base "all_of" 1 sAllOf) (h : Has K mg "is_tag" (top 7) ["thing"]) : DefOk P w K mg base "is_tag" 2 sIsTag := by
  refine def_D h ["thing"] ⟨rfl, rfl, rfl, by decide +kernel, rfl, by decide +kernel, by decide +kernel⟩ (fun as R ⟨_, e, _⟩ => by subst e; rfl) fun f cdv A outer s H E as R hr hu nd ⟨z, e, hz, q⟩ => ?_
  subst e
  obtain ⟨_, ms⟩ := M.small
  have := tag_len hz
  exact s_cons (t_ret (j_call D hr (a_cons (v_val (j_nm 0 rfl (a_cons (v_val (j_globS ms (a_cons (v_val (j_int (a_nil ⟨_, rfl, nd0, ⟨_, _, _, rfl, by omega, hz, ⟨_, rfl, q⟩⟩⟩)))))))))))) 
def sLabelOf : FS := fun as R => ∃ t, as = [.val (encT t)] ∧ tagLen t ≤ 1000 ∧ R (.str (lab t)) []
theorem d_label_of (M : Names mg) (h : Has K mg "label_of" (top 8) ["tree"]) : DefOk P w K mg base "label_of" 1 sLabelOf := by
  refine def_D h ["tree"] ⟨rfl, rfl, rfl, by decide +kernel, rfl, by decide +kernel, by decide +kernel⟩ (fun as R ⟨_, e, _⟩ => by subst e; rfl) fun f cdv A outer s H E as R hr hu nd ⟨t, e, hl, q⟩ => ?_
  subst e
  obtain ⟨g, wd, ks⟩ := t
  rw [show lab (.node g wd ks) = if wd = "" then g else g ++ ":" from rfl] at q
  rw [encT]
  have hl : g.length ≤ 1000 := hl
  refine s_cons (t_ifB _ (jt_cmp (j_ix (v_val (j_nm 0 rfl (j_int ⟨_, rfl, xd_tup rfl (v_val (j_str ⟨_, rfl, cd_eqS ⟨rfl, rfl⟩⟩))⟩))))) (fun h => ?_) (fun h => ?_))
  · rw [if_pos (of_decide_eq_true h)] at q
    exact s_cons (t_ret (j_ix (v_val (j_nm 0 rfl (j_int ⟨_, rfl, xd_tup rfl ⟨_, rfl, q⟩⟩)))))
  refine s_nil ?_
  rw [if_neg (of_decide_eq_false h)] at q
  refine s_cons (t_ret (j_bin (j_ix (v_val (j_nm 0 rfl (j_int ⟨_, rfl, xd_tup rfl (j_str (bd_addS ?_ ⟨_, rfl, q⟩))⟩))))))
  have : (":" : Str).length = 1 := by rw [colon]; rfl
  rw [this]
  have := szl
  omega
def sIsLabel : FS := fun as R => ∃ z, as = [.val (.str z)] ∧ isLab z ∧ R (.bl true) []
theorem d_is_label (M : Names mg) (D : DefOk P w K mg base "is_tag" 2 sIsTag) (h : Has K mg "is_label" (top 11) ["text"]) : DefOk P w K mg base "is_label" 3 sIsLabel := by
  refine def_D h ["text"] ⟨rfl, rfl, rfl, by decide +kernel, rfl, by decide +kernel, by decide +kernel⟩ (fun as R ⟨_, e, _⟩ => by subst e; rfl) fun f cdv A outer s H E as R hr hu nd ⟨z, e, hz, q⟩ => ?_
  subst e
  have hl : z.length ≤ 1000 := by
    rcases hz with q | ⟨t, q, e⟩
    · have := tag_len q; omega
    · have := tag_len q; rw [e, len_colon]; omega
  refine s_cons (t_ifB _ (jt_cmp (j_slice (v_val (j_nm 0 rfl (o_some (j_neg (j_int ⟨_, rfl, ⟨_, rfl, (o_none ⟨_, rfl, sd_str (small9 hl) (v_val (j_str ⟨_, rfl, cd_eqS ⟨rfl, rfl⟩⟩))⟩)⟩⟩))))))) (fun h => ?_) (fun h => ?_))
  · have h := of_decide_eq_true h
    rcases hz with hz | ⟨t, ht, rfl⟩
    · obtain ⟨l, c, e⟩ := snoc_of (tag_len hz).1
      rw [show (-(1 : Int)) = -1 from rfl, cut_last e, colon] at h
      have : c = 58 := by simpa using h
      exact absurd this (tag_ne hz c (by rw [e]; simp))
    · refine s_cons (t_ret (j_call D hr (a_cons (v_val (j_slice (v_val (j_nm 0 rfl (o_none (o_some (j_neg (j_int ⟨_, rfl, ⟨_, rfl, ⟨_, rfl, sd_str (small9 hl) (a_nil ⟨_, rfl, nd0, ⟨_, rfl, ?_, ⟨_, rfl, q⟩⟩⟩)⟩⟩⟩)))))))))))
      rw [show (-(1 : Int)) = -1 from rfl, cut_init (snoc_colon t), str_arr]
      exact ht
  refine s_nil ?_
  have h := of_decide_eq_false h
  rcases hz with hz | ⟨t, ht, rfl⟩
  · exact s_cons (t_ret (j_call D hr (a_cons (v_val (j_nm 0 rfl (a_nil ⟨_, rfl, nd0, ⟨_, rfl, hz, ⟨_, rfl, q⟩⟩⟩))))))
  · refine absurd ?_ h
    rw [show (-(1 : Int)) = -1 from rfl, cut_last (snoc_colon t), colon]
end
end DL

set_option Elab.async false
set_option linter.all false
set_option maxRecDepth 100000
set_option autoImplicit false
/-! E4: the defs of machines. -/
namespace DL
open PySem PySem.Spec L2
section
variable {P : Program} {w : World} {K : PySem.W.Frag} {mg : Str → Option Value} {base : Heap}
def sAskSteps : FS := fun as R => ∃ steps, as = [.val (.lst (steps.map rowD))] ∧ StepsOk steps ∧ R .non []
theorem len_rows {n : Nat} {steps : List (List Nat)} (h : steps.length = n) : ((steps.map rowD).length : Int) = n := by rw [List.length_map, h]
theorem d_ask_steps (M : Names mg) (h : Has K mg "ask_steps" (top 12) ["steps"]) : DefOk P w K mg base "ask_steps" 1 sAskSteps := by
  refine def_D h ["steps", "size", "p", "q"] ⟨rfl, rfl, rfl, by decide +kernel, rfl, by decide +kernel, by decide +kernel⟩ (fun as R ⟨_, e, _⟩ => by subst e; rfl) fun f cdv A outer s H E as R hr hu nd ⟨steps, e, ok, q⟩ => ?_
  subst e
  obtain ⟨_, ms⟩ := M.states
  have n1 := ok.n1
  have n100 := ok.n100
  refine s_cons (t_asg 1 (j_blt "len" M.len (by decide +kernel) (a_cons (v_val (j_nm 0 rfl (a_nil ⟨_, rfl, kd_lenL ?_⟩))))) nd)
  rw [len_rows rfl]
  refine s_cons (t_ifB _ (jtb_bool (jwb_or (jt_cmp (j_nm 1 rfl (v_val (j_int ⟨_, rfl, cd_lt ⟨rfl, rfl⟩⟩)))) fun h => (jwb_or1 (jt_cmp (j_nm 1 rfl (v_val (j_globI ms ⟨_, rfl, cd_gt ⟨rfl, rfl⟩⟩)))))) ⟨rfl, rfl⟩) (fun h => ?_) (fun h => ?_))
  · simp at h; omega
  refine s_nil ?_
  refine s_cons (t_for (i_rng1 M.range (j_nm 1 rfl ⟨_, rfl, ⟨by omega, by omega⟩, fun i ρ => ∃ d1 d2, ρ = [.val (.lst (steps.map rowD)), .val (.int steps.length), d1, d2], ⟨_, _, rfl⟩, fun i d ρ hd ⟨_, _, e⟩ => ?_, fun ρ ⟨_, _, e⟩ => ?_⟩)))
  · subst e
    obtain ⟨hi, rfl⟩ := rget hd
    have hi : i < steps.length := by omega
    have hp : (0 : Int) + (i : Int) * 1 = (i : Int) := by omega
    rw [hp]
    refine g_nm 2 ?_ nd
    obtain ⟨r0, e0, m0, _, _⟩ := step_at ok.rows hi hi
    refine s_cons (t_ifB _ (jt_cmp (j_blt "len" M.len (by decide +kernel) (a_cons (v_val (j_ix (v_val (j_nm 0 rfl (j_nm 2 rfl ⟨_, rfl, xd_lst (atI_map e0) (a_nil ⟨_, rfl, kd_lenL (v_val (j_nm 1 rfl ⟨_, rfl, cd_ne ⟨rfl, rfl⟩⟩))⟩)⟩)))))))) (fun h => ?_) (fun h => ?_))
    · rw [List.length_map, ok.rows r0 m0] at h; simp at h
    refine s_nil ?_
    refine s_cons (t_for (i_rng1 M.range (j_nm 1 rfl ⟨_, rfl, ⟨by omega, by omega⟩, fun j ρ => ∃ d2, ρ = [.val (.lst (steps.map rowD)), .val (.int steps.length), .val (.int i), d2], ⟨_, rfl⟩, fun j d ρ hd ⟨_, e⟩ => ?_, fun ρ ⟨_, e⟩ => ?_⟩)))
    · subst e
      obtain ⟨hj, rfl⟩ := rget hd
      have hj : j < steps.length := by omega
      have hp : (0 : Int) + (j : Int) * 1 = (j : Int) := by omega
      rw [hp]
      refine g_nm 3 ?_ nd
      obtain ⟨r, e1, m1, e2, m2⟩ := step_at ok.rows hi hj
      have hlt := ok.lt r m1 _ m2
      refine s_cons (t_ifB _ (jtb_bool (jwb_or (jt_cmp (j_ix (v_val (j_ix (v_val (j_nm 0 rfl (j_nm 2 rfl ⟨_, rfl, xd_lst (atI_map e1) (j_nm 3 rfl ⟨_, rfl, xd_lst (atI_map e2) (v_val (j_int ⟨_, rfl, cd_lt ⟨rfl, rfl⟩⟩))⟩)⟩))))))) fun h => (jwb_or1 (jt_cmp (j_ix (v_val (j_ix (v_val (j_nm 0 rfl (j_nm 2 rfl ⟨_, rfl, xd_lst (atI_map e1) (j_nm 3 rfl ⟨_, rfl, xd_lst (atI_map e2) (v_val (j_nm 1 rfl ⟨_, rfl, cd_ge ⟨rfl, rfl⟩⟩))⟩)⟩))))))))) ⟨rfl, rfl⟩) (fun h => ?_) (fun h => ?_))
      · simp at h; omega
      refine s_nil ?_
      refine s_cons (t_ifB _ (jtb_bool (jwb_and (jtb_bool (jwb_or (jt_cmp (j_nm 2 rfl (v_val (j_int ⟨_, rfl, cd_eq ⟨rfl, rfl⟩⟩)))) fun h => (jwb_or1 (jt_cmp (j_nm 3 rfl (v_val (j_int ⟨_, rfl, cd_eq ⟨rfl, rfl⟩⟩)))))) ⟨rfl, rfl⟩) fun h => (jwb_and1 (jt_cmp (j_ix (v_val (j_ix (v_val (j_nm 0 rfl (j_nm 2 rfl ⟨_, rfl, xd_lst (atI_map e1) (j_nm 3 rfl ⟨_, rfl, xd_lst (atI_map e2) (v_val (j_int ⟨_, rfl, cd_ne ⟨rfl, rfl⟩⟩))⟩)⟩))))))))) ⟨rfl, rfl⟩) (fun h => ?_) (fun h => ?_))
      · exfalso
        simp at h
        obtain ⟨h1, h2⟩ := h
        rcases h1 with h1 | h1
        · have : i = 0 := by omega
          subst this
          exact h2 (ok.dead j).1
        · have : j = 0 := by omega
          subst this
          exact h2 (ok.dead i).2
      refine s_nil ?_
      exact s_nil ⟨_, rfl⟩
    · subst e
      exact s_nil ⟨_, _, rfl⟩
  · subst e
    exact s_nil ⟨_, rfl, q⟩
/-- what was seen -/
def seenD (l : List (Str × Nat)) : List (Key × Dt) := l.map fun x => (kS x.1, .bl true)
theorem valD_none {κ : Type} [DecidableEq κ] {l : List (κ × Dt)} {k : κ} (h : k ∉ l.map (·.1)) : valD l k = none := by
  unfold valD
  rw [List.find?_eq_none.mpr fun x hx => ?_]
  · rfl
  · simp only [decide_eq_true_eq]
    exact fun e => h (List.mem_map.mpr ⟨x, hx, e⟩)
theorem putD_new {κ : Type} [DecidableEq κ] {l : List (κ × Dt)} {k : κ} {d : Dt} (h : k ∉ l.map (·.1)) : putD l k d = l ++ [(k, d)] := by
  unfold putD
  rw [if_neg]
  rw [valD_any, valD_none h]
  simp
def sAskStarts : FS := fun as R => ∃ starts n, as = [.val (.lst (starts.map pD)), .val (nD n)] ∧ StartsOk starts n ∧ starts.length ≤ 1000 ∧ R .non []
theorem d_ask_starts (M : Names mg) (D : DefOk P w K mg base "is_label" 3 sIsLabel) (h : Has K mg "ask_starts" (top 13) ["starts", "size"]) : DefOk P w K mg base "ask_starts" 4 sAskStarts := by
  refine def_D h ["starts", "size", "seen", "pair"] ⟨rfl, rfl, rfl, by decide +kernel, rfl, by decide +kernel, by decide +kernel⟩ (fun as R ⟨_, _, e, _⟩ => by subst e; rfl) fun f cdv A outer s H E as R hr hu nd ⟨starts, n, e, ok, hz, q⟩ => ?_
  subst e
  refine s_cons (t_asgN 2 (n_dK ?_) nd)
  refine s_cons (t_for (i_lst (j_nm 0 rfl ⟨_, rfl, fun i ρ => ∃ d, ρ = [.val (.lst (starts.map pD)), .val (nD n), .own none (.dK (seenD (starts.take i))), d], ⟨_, rfl⟩, fun i d ρ hd ⟨_, e⟩ => ?_, fun ρ ⟨_, e⟩ => ?_⟩)))
  · subst e
    obtain ⟨x, hx, rfl⟩ := mget hd
    obtain ⟨hl, h1, h2⟩ := ok.lab x (List.mem_of_getElem? hx)
    have hlt : i < starts.length := by
      by_cases q : i < starts.length
      · exact q
      · rw [List.getElem?_eq_none (by omega)] at hx; cases hx
    have hnew : kS x.1 ∉ (seenD (starts.take i)).map (·.1) := fun hm => by
      unfold seenD at hm
      rw [List.map_map] at hm
      obtain ⟨y, hy, e⟩ := List.mem_map.mp hm
      have e : y.1 = x.1 := kS_inj e
      have nd := ok.nd
      rw [← List.take_append_drop i starts, List.map_append, List.nodup_append] at nd
      have hxd : x ∈ starts.drop i := by
        rw [List.drop_eq_getElem_cons hlt]
        rw [List.getElem?_eq_getElem hlt] at hx
        cases hx
        exact List.mem_cons_self
      exact nd.2.2 y.1 (List.mem_map.mpr ⟨y, hy, rfl⟩) x.1 (List.mem_map.mpr ⟨x, hxd, rfl⟩) e
    refine g_nm 3 ?_ nd
    refine s_cons (t_ifB _ (jtb_bool (jwb_or (jt_not (jt_val (j_call D hr (a_cons (v_val (j_ix (v_val (j_nm 3 rfl (j_int ⟨_, rfl, xd_tup rfl (a_nil ⟨_, rfl, nd0, ⟨_, rfl, hl, ⟨_, rfl, ⟨rfl, rfl⟩⟩⟩⟩)⟩))))))))) fun h => (jwb_or1 (jt_cmp (j_ix (v_val (j_nm 3 rfl (j_int ⟨_, rfl, xd_tup rfl (v_own 2 rfl ⟨_, rfl, cd_inKs hu ⟨rfl, rfl⟩⟩)⟩))))))) ⟨rfl, rfl⟩) (fun h => ?_) (fun h => ?_))
    · rw [show (Sum.inr x.fst : Key) = kS x.1 from rfl, valD_none hnew] at h; cases h
    refine s_nil ?_
    refine s_cons (t_ifB _ (jtb_bool (jwb_or (jt_cmp (j_ix (v_val (j_nm 3 rfl (j_int ⟨_, rfl, xd_tup rfl (v_val (j_int ⟨_, rfl, cd_lt ⟨rfl, rfl⟩⟩))⟩))))) fun h => (jwb_or1 (jt_cmp (j_ix (v_val (j_nm 3 rfl (j_int ⟨_, rfl, xd_tup rfl (v_val (j_nm 1 rfl ⟨_, rfl, cd_ge ⟨rfl, rfl⟩⟩))⟩))))))) ⟨rfl, rfl⟩) (fun h => ?_) (fun h => ?_))
    · simp at h; omega
    refine s_nil ?_
    refine s_cons (t_sub 2 (j_bl ⟨_, _, rfl, (j_ix (v_val (j_nm 3 rfl (j_int ⟨_, rfl, xd_tup rfl ⟨_, _, rfl, wd_dKs hu ?_ ?_⟩⟩))))⟩))
    · unfold seenD; rw [List.length_map, List.length_take]; have := szl; omega
    refine s_nil ⟨.val (pD x), ?_⟩
    rw [show (Sum.inr x.fst : Key) = kS x.1 from rfl, putD_new hnew, take_snoc hx]
    unfold seenD
    rw [List.map_append]
    rfl
  · subst e
    exact s_nil ⟨_, rfl, q⟩
def sAskGood : FS := fun as R => ∃ good n, as = [.val (.lst (good.map nD)), .val (nD n)] ∧ GoodOk good n ∧ good.length ≤ 1000 ∧ R .non []
theorem d_ask_good (M : Names mg) (h : Has K mg "ask_good" (top 14) ["good", "size"]) : DefOk P w K mg base "ask_good" 1 sAskGood := by
  refine def_D h ["good", "size", "state"] ⟨rfl, rfl, rfl, by decide +kernel, rfl, by decide +kernel, by decide +kernel⟩ (fun as R ⟨_, _, e, _⟩ => by subst e; rfl) fun f cdv A outer s H E as R hr hu nd ⟨good, n, e, ok, hz, q⟩ => ?_
  subst e
  refine s_cons (t_for (i_lst (j_nm 0 rfl ⟨_, rfl, fun i ρ => ∃ d, ρ = [.val (.lst (good.map nD)), .val (nD n), d], ⟨_, rfl⟩, fun i d ρ hd ⟨_, e⟩ => ?_, fun ρ ⟨_, e⟩ => ?_⟩)))
  · subst e
    obtain ⟨x, hx, rfl⟩ := mget hd
    obtain ⟨h1, h2⟩ := ok.bd x (List.mem_of_getElem? hx)
    refine g_nm 2 ?_ nd
    refine s_cons (t_ifB _ (jtb_bool (jwb_or (jt_cmp (j_nm 2 rfl (v_val (j_int ⟨_, rfl, cd_lt ⟨rfl, rfl⟩⟩)))) fun h => (jwb_or1 (jt_cmp (j_nm 2 rfl (v_val (j_nm 1 rfl ⟨_, rfl, cd_ge ⟨rfl, rfl⟩⟩)))))) ⟨rfl, rfl⟩) (fun h => ?_) (fun h => ?_))
    · simp at h; omega
    refine s_nil ?_
    exact s_nil ⟨_, rfl⟩
  · subst e
    refine s_cons (t_ifB false (jt_cmp (j_lenSet M.len M.set (j_nm 0 rfl ⟨good.map kN, by rw [keysN], by rw [List.length_map]; omega, fun L nL hL => ?_⟩))) (fun h => ?_) (fun h => ?_)) 
    · obtain ⟨m, rfl, nm, hm⟩ := set_back (fun _ _ => kN_inj) nL hL
      have e1 : m.length = good.length := Nat.le_antisymm (le_of_sub nm fun x hx => (hm x).mp hx) (le_of_sub ok.asc.nodup fun x hx => (hm x).mpr hx)
      refine v_val (j_blt "len" M.len (by decide +kernel) (a_cons (v_val (j_nm 0 rfl (a_nil ⟨_, rfl, kd_lenL ⟨_, rfl, cd_lt ⟨?_, rfl⟩⟩⟩)))))
      rw [List.length_map, List.length_map, e1]
      simp
    · cases h
    refine s_nil ?_
    exact s_nil ⟨_, rfl, q⟩
def sMake : FS := fun as R => ∃ M, as = [.val (.lst (M.starts.map pD)), .val (.lst (M.steps.map rowD)), .val (.lst (M.good.map nD))] ∧ WfM M ∧ M.starts.length ≤ 1000 ∧ R (encM M) []
theorem d_make_machine (M : Names mg) (D1 : DefOk P w K mg base "ask_steps" 1 sAskSteps) (D2 : DefOk P w K mg base "ask_starts" 4 sAskStarts) (D3 : DefOk P w K mg base "ask_good" 1 sAskGood) (h : Has K mg "make_machine" (top 15) ["starts", "steps", "good"]) : DefOk P w K mg base "make_machine" 5 sMake := by
  refine def_D h ["starts", "steps", "good", "pairs", "pair", "row"] ⟨rfl, rfl, rfl, by decide +kernel, rfl, by decide +kernel, by decide +kernel⟩ (fun as R ⟨_, e, _⟩ => by subst e; rfl) fun f cdv A outer s H E as R hr hu nd ⟨N, e, ok, hz, q⟩ => ?_
  subst e
  have hg : N.good.length ≤ 100 := by
    have := le_of_sub (ns := List.range N.n) ok.good.asc.nodup fun x hx => List.mem_range.mpr (ok.good.bd x hx).2
    rw [List.length_range] at this
    exact Nat.le_trans this ok.steps.n100
  have hs := ok.steps.n100
  refine s_cons (t_expr (j_call D1 (hr.mono (by decide)) (a_cons (v_val (j_nm 1 rfl (a_nil ⟨_, rfl, nd0, ⟨_, rfl, ok.steps, ?_⟩⟩))))))
  refine s_cons (t_expr (j_call D2 (hr.mono (by decide)) (a_cons (v_val (j_nm 0 rfl (a_cons (v_val (j_blt "len" M.len (by decide +kernel) (a_cons (v_val (j_nm 1 rfl (a_nil ⟨_, rfl, kd_lenL (a_nil ⟨_, rfl, nd0, ⟨_, N.n, by rw [len_rows rfl]; rfl, ok.starts, hz, ?_⟩⟩)⟩))))))))))))
  refine s_cons (t_expr (j_call D3 (hr.mono (by decide)) (a_cons (v_val (j_nm 2 rfl (a_cons (v_val (j_blt "len" M.len (by decide +kernel) (a_cons (v_val (j_nm 1 rfl (a_nil ⟨_, rfl, kd_lenL (a_nil ⟨_, rfl, nd0, ⟨_, N.n, by rw [len_rows rfl]; rfl, ok.good, by omega, ?_⟩⟩)⟩))))))))))))
  refine s_cons (t_asg 3 (j_blt "sorted" M.sorted (by decide +kernel) (a_cons (v_val (j_comp [("pair", 4)] N.starts pD (fun _ => true) pD (i_lst (j_nm 0 rfl ⟨_, rfl, ⟨rfl, rfl⟩⟩)) (small9 hz) (fun x hx => turn_id fun _ _ _ _ _ => b_nm 4 (fun _ _ _ _ _ => (j_tup (l_cons (j_ix (v_val (j_nm 4 rfl (j_int ⟨_, rfl, xd_tup rfl (l_cons (j_ix (v_val (j_nm 4 rfl (j_int ⟨_, rfl, xd_tup rfl (l_nil ⟨rfl, rfl⟩)⟩)))))⟩))))))) (by decide) nd) (a_nil ⟨_, rfl, kd_sort hu (by rw [filt_true]; exact canP (small9 hz)) ?_⟩) nd (blk ["starts", "steps", "good", "pairs", "pair", "row"] (defScope (top 15)) (by decide +kernel)))))) nd)
  rw [filt_true, sortP, sort_asc ok.starts.asc]
  refine s_cons (t_ret (j_tup (l_cons (j_nm 3 rfl (l_cons (j_comp [("row", 5)] N.steps rowD (fun _ => true) rowD (i_lst (j_nm 1 rfl ⟨_, rfl, ⟨rfl, rfl⟩⟩)) (small9 (by omega)) (fun x hx => turn_id fun _ _ _ _ _ => b_nm 5 (fun _ _ _ _ _ => (j_ty "list" M.list (by decide +kernel) (a_cons (v_val (j_nm 5 rfl (a_nil ⟨_, rfl, kd_lstL ⟨rfl, rfl⟩⟩)))))) (by decide) nd) (l_cons (j_blt "sorted" M.sorted (by decide +kernel) (a_cons (v_val (j_nm 2 rfl (a_nil ⟨_, rfl, kd_sort hu (canN (small9 (by omega))) (l_nil ⟨_, rfl, ?_⟩)⟩)))))) nd (blk ["starts", "steps", "good", "pairs", "pair", "row"] (defScope (top 15)) (by decide +kernel))))))))
  rw [filt_true, sortN, sort_asc ok.good.asc]
  exact q
end
end DL

set_option Elab.async false
set_option linter.all false
set_option maxRecDepth 100000
set_option autoImplicit false
/-! E5: patterns as data; their outlines; the defs of patterns. -/
namespace DL
open PySem PySem.Spec L2

inductive Pat where
  | one (x : Str)
  | row (ps : List Pat)
  | any (ps : List Pat)
  | may (p : Pat)
  | many (p : Pat)
  | some (p : Pat)
/-! induction -/
section
variable {C : Pat → Prop} (h1 : ∀ x, C (.one x)) (h2 : ∀ ps, (∀ p ∈ ps, C p) → C (.row ps)) (h3 : ∀ ps, (∀ p ∈ ps, C p) → C (.any ps)) (h4 : ∀ p, C p → C (.may p)) (h5 : ∀ p, C p → C (.many p)) (h6 : ∀ p, C p → C (.some p))
include h1 h2 h3 h4 h5 h6
mutual
theorem Pat.ind : ∀ p : Pat, C p
  | .one x => h1 x
  | .row ps => h2 ps (Pat.inds ps)
  | .any ps => h3 ps (Pat.inds ps)
  | .may p => h4 p (Pat.ind p)
  | .many p => h5 p (Pat.ind p)
  | .some p => h6 p (Pat.ind p)
theorem Pat.inds : ∀ (ps : List Pat) (p : Pat), p ∈ ps → C p
  | [], _, h => absurd h (by simp)
  | q :: ps, p, h => (List.mem_cons.mp h).elim (fun e => e ▸ Pat.ind q) fun h => Pat.inds ps p h
end
end
mutual
def encP : Pat → Dt
  | .one x => .tup [.str "one", .str x]
  | .row ps => .tup [.str "row", .tup (encPs ps)]
  | .any ps => .tup [.str "any", .tup (encPs ps)]
  | .may p => .tup [.str "may", encP p]
  | .many p => .tup [.str "many", encP p]
  | .some p => .tup [.str "some", encP p]
def encPs : List Pat → List Dt
  | [] => []
  | p :: ps => encP p :: encPs ps
end
theorem encPs_eq : ∀ ps : List Pat, encPs ps = ps.map encP
  | [] => by simp [encPs]
  | p :: ps => by simp [encPs, encPs_eq ps]
mutual
def namesAt : Pat → List Str
  | .one x => [x]
  | .row ps => namesAts ps
  | .any ps => namesAts ps
  | .may p => namesAt p
  | .many p => namesAt p
  | .some p => namesAt p
def namesAts : List Pat → List Str
  | [] => []
  | p :: ps => namesAt p ++ namesAts ps
end
mutual
def Pat.depth : Pat → Nat
  | .one _ => 1
  | .row ps => depths ps + 1
  | .any ps => depths ps + 1
  | .may p => p.depth + 1
  | .many p => p.depth + 1
  | .some p => p.depth + 1
def depths : List Pat → Nat
  | [] => 0
  | p :: ps => max p.depth (depths ps)
end
mutual
def Pat.nodes : Pat → Nat
  | .one _ => 1
  | .row ps => nodess ps + 1
  | .any ps => nodess ps + 1
  | .may p => p.nodes + 1
  | .many p => p.nodes + 1
  | .some p => p.nodes + 1
def nodess : List Pat → Nat
  | [] => 0
  | p :: ps => p.nodes + nodess ps
end
def cnt (p : Pat) : Nat := (namesAt p).length
def cnts (ps : List Pat) : Nat := (namesAts ps).length
theorem namesAts_eq : ∀ ps : List Pat, namesAts ps = ps.flatMap namesAt
  | [] => by simp [namesAts]
  | p :: ps => by simp [namesAts, namesAts_eq ps]
theorem depth_mem {ps : List Pat} {p : Pat} (h : p ∈ ps) : p.depth ≤ depths ps := by
  induction ps with
  | nil => cases h
  | cons q ps ih =>
    unfold depths
    rcases List.mem_cons.mp h with e | h
    · subst e; exact Nat.le_max_left _ _
    · exact Nat.le_trans (ih h) (Nat.le_max_right _ _)
theorem nodes_mem {ps : List Pat} {p : Pat} (h : p ∈ ps) : p.nodes ≤ nodess ps := by
  induction ps with
  | nil => cases h
  | cons q ps ih =>
    unfold nodess
    rcases List.mem_cons.mp h with e | h
    · subst e; omega
    · have := ih h; omega
theorem cnt_mem {ps : List Pat} {p : Pat} (h : p ∈ ps) : cnt p ≤ cnts ps := by
  unfold cnts cnt
  induction ps with
  | nil => cases h
  | cons q ps ih =>
    rw [namesAts, List.length_append]
    rcases List.mem_cons.mp h with e | h
    · subst e; omega
    · have := ih h; omega
/-! ### outlines -/
structure Out where
  many : Nat
  void : Bool
  none : Bool
  firsts : List Nat
  lasts : List Nat
  pairs : List (Nat × Nat)
def btw (ls fs : List Nat) : List (Nat × Nat) := ls.flatMap fun a => fs.map fun b => (a, b)
def rowStep (s i : Out) : Out := ⟨s.many + i.many, s.void || i.void, s.none && i.none, if s.none = true then s.firsts ++ i.firsts else s.firsts, if i.none = true then s.lasts ++ i.lasts else i.lasts, s.pairs ++ i.pairs ++ btw s.lasts i.firsts⟩
def row0 : Out := ⟨0, false, true, [], [], []⟩
def rowEnd (s : Out) : Out := if s.void = true then ⟨s.many, true, false, [], [], []⟩ else ⟨s.many, false, s.none, s.firsts, s.lasts, s.pairs⟩
def anyStep (s i : Out) : Out := ⟨s.many + i.many, s.void && i.void, s.none || i.none, s.firsts ++ i.firsts, s.lasts ++ i.lasts, s.pairs ++ i.pairs⟩
def any0 : Out := ⟨0, true, false, [], [], []⟩
mutual
def outl : Pat → Nat → Out
  | .one _, b => ⟨1, false, false, [b + 1], [b + 1], []⟩
  | .row ps, b => rowEnd ((outls ps b).foldl rowStep row0)
  | .any ps, b => (outls ps b).foldl anyStep any0
  | .may p, b => ⟨(outl p b).many, false, true, (outl p b).firsts, (outl p b).lasts, (outl p b).pairs⟩
  | .many p, b => ⟨(outl p b).many, false, true, (outl p b).firsts, (outl p b).lasts, (outl p b).pairs ++ btw (outl p b).lasts (outl p b).firsts⟩
  | .some p, b => ⟨(outl p b).many, (outl p b).void, (outl p b).none, (outl p b).firsts, (outl p b).lasts, (outl p b).pairs ++ btw (outl p b).lasts (outl p b).firsts⟩
def outls : List Pat → Nat → List Out
  | [], _ => []
  | p :: ps, b => outl p b :: outls ps (b + (outl p b).many)
end
def sumMany (os : List Out) : Nat := (os.map Out.many).sum
theorem sumMany_cons (o : Out) (os : List Out) : sumMany (o :: os) = o.many + sumMany os := by simp [sumMany]
theorem fold_many {f : Out → Out → Out} (hf : ∀ s i, (f s i).many = s.many + i.many) : ∀ (os : List Out) (s : Out), (os.foldl f s).many = s.many + sumMany os
  | [], s => by simp [sumMany]
  | o :: os, s => by rw [List.foldl_cons, fold_many hf os, hf, sumMany_cons]; omega
theorem outls_len : ∀ (ps : List Pat) (b : Nat), (outls ps b).length = ps.length
  | [], _ => rfl
  | p :: ps, b => by rw [outls, List.length_cons, outls_len ps, List.length_cons]
theorem outls_at : ∀ (ps : List Pat) (b i : Nat) (p : Pat), ps[i]? = .some p → (outls ps b)[i]? = .some (outl p (b + sumMany ((outls ps b).take i)))
  | [], _, _, _, h => by simp at h
  | q :: ps, b, 0, p, h => by
    have : q = p := by simpa using h
    subst this
    simp [outls, sumMany]
  | q :: ps, b, i + 1, p, h => by
    have := outls_at ps (b + (outl q b).many) i p (by simpa using h)
    rw [outls, List.getElem?_cons_succ, this, List.take_succ_cons, sumMany_cons, Nat.add_assoc]
theorem many_cnt (p : Pat) : ∀ b, (outl p b).many = cnt p := by
  have rows : ∀ ps : List Pat, (∀ p ∈ ps, ∀ b, (outl p b).many = cnt p) → ∀ b, sumMany (outls ps b) = cnts ps := by
    intro ps
    induction ps with
    | nil => intro _ b; rfl
    | cons q ps ih =>
      intro h b
      rw [outls, sumMany_cons, ih (fun p hp => h p (List.mem_cons_of_mem _ hp)), h q List.mem_cons_self]
      unfold cnts cnt
      rw [namesAts, List.length_append]
  refine Pat.ind (C := fun p => ∀ b, (outl p b).many = cnt p) ?_ ?_ ?_ ?_ ?_ ?_ p
  · intro x b; rfl
  · intro ps h b
    have : (rowEnd ((outls ps b).foldl rowStep row0)).many = ((outls ps b).foldl rowStep row0).many := by unfold rowEnd; split <;> rfl
    rw [outl, this, fold_many (fun _ _ => rfl), rows ps h b]
    simp [cnts, cnt, namesAt, row0]
  · intro ps h b
    rw [outl, fold_many (fun _ _ => rfl), rows ps h b]
    simp [cnts, cnt, namesAt, any0]
  · intro p h b; rw [outl]; rw [h b]; unfold cnt; rw [namesAt]
  · intro p h b; rw [outl]; rw [h b]; unfold cnt; rw [namesAt]
  · intro p h b; rw [outl]; rw [h b]; unfold cnt; rw [namesAt]
theorem btw_len (ls fs : List Nat) : (btw ls fs).length = ls.length * fs.length := by
  unfold btw
  induction ls with
  | nil => simp
  | cons a ls ih => rw [List.flatMap_cons, List.length_append, ih, List.length_map, List.length_cons, Nat.succ_mul]; omega
/-- how long an outline's lists may be: c places, n nodes -/
structure OLe (o : Out) (c n : Nat) : Prop where
  fs : o.firsts.length ≤ c
  ls : o.lasts.length ≤ c
  ps : o.pairs.length ≤ n
theorem btw_le {ls fs : List Nat} (h1 : ls.length ≤ 3) (h2 : fs.length ≤ 3) : (btw ls fs).length ≤ 16 := by
  rw [btw_len]
  exact Nat.le_trans (Nat.mul_le_mul h1 h2) (by decide)
/-- .. for a walk over parts -/
theorem rows_le : ∀ (ps : List Pat) (b : Nat) (s : Out) (c n : Nat), (∀ p ∈ ps, ∀ b, OLe (outl p b) (cnt p) (32 * p.nodes - 16)) → OLe s c n → c + cnts ps ≤ 3 → OLe ((outls ps b).foldl rowStep s) (c + cnts ps) (n + 32 * nodess ps)
  | [], _, s, c, n, _, h, hc => by simpa [outls, cnts, nodess, namesAts] using h
  | p :: ps, b, s, c, n, hp, h, hc => by
    have e : cnts (p :: ps) = cnt p + cnts ps := by unfold cnts cnt; rw [namesAts, List.length_append]
    rw [e] at hc ⊢
    have q := hp p List.mem_cons_self b
    have hn : 1 ≤ p.nodes := by cases p <;> unfold Pat.nodes <;> omega
    have h2 : OLe (rowStep s (outl p b)) (c + cnt p) (n + 32 * p.nodes) := by
      refine ⟨?_, ?_, ?_⟩
      · show (if s.none = true then s.firsts ++ (outl p b).firsts else s.firsts).length ≤ _
        have := h.fs; have := q.fs
        split
        · rw [List.length_append]; omega
        · omega
      · show (if (outl p b).none = true then s.lasts ++ (outl p b).lasts else (outl p b).lasts).length ≤ _
        have := h.ls; have := q.ls
        split
        · rw [List.length_append]; omega
        · omega
      · show (s.pairs ++ (outl p b).pairs ++ btw s.lasts (outl p b).firsts).length ≤ _
        have h1 := h.ls; have h2 := q.fs
        have := btw_le (ls := s.lasts) (fs := (outl p b).firsts) (by omega) (by omega)
        have := h.ps; have := q.ps
        rw [List.length_append, List.length_append]
        omega
    have := rows_le ps (b + (outl p b).many) (rowStep s (outl p b)) (c + cnt p) (n + 32 * p.nodes) (fun p hq => hp p (List.mem_cons_of_mem _ hq)) h2 (by omega)
    rw [outls, List.foldl_cons, nodess, ← Nat.add_assoc c, Nat.mul_add, ← Nat.add_assoc n]
    exact this
theorem anys_le : ∀ (ps : List Pat) (b : Nat) (s : Out) (c n : Nat), (∀ p ∈ ps, ∀ b, OLe (outl p b) (cnt p) (32 * p.nodes - 16)) → OLe s c n → c + cnts ps ≤ 3 → OLe ((outls ps b).foldl anyStep s) (c + cnts ps) (n + 32 * nodess ps)
  | [], _, s, c, n, _, h, hc => by simpa [outls, cnts, nodess, namesAts] using h
  | p :: ps, b, s, c, n, hp, h, hc => by
    have e : cnts (p :: ps) = cnt p + cnts ps := by unfold cnts cnt; rw [namesAts, List.length_append]
    rw [e] at hc ⊢
    have q := hp p List.mem_cons_self b
    have h2 : OLe (anyStep s (outl p b)) (c + cnt p) (n + 32 * p.nodes) := by
      refine ⟨?_, ?_, ?_⟩
      · show (s.firsts ++ (outl p b).firsts).length ≤ _
        have := h.fs; have := q.fs
        rw [List.length_append]; omega
      · show (s.lasts ++ (outl p b).lasts).length ≤ _
        have := h.ls; have := q.ls
        rw [List.length_append]; omega
      · show (s.pairs ++ (outl p b).pairs).length ≤ _
        have := h.ps; have := q.ps
        rw [List.length_append]; omega
    have := anys_le ps (b + (outl p b).many) (anyStep s (outl p b)) (c + cnt p) (n + 32 * p.nodes) (fun p hq => hp p (List.mem_cons_of_mem _ hq)) h2 (by omega)
    rw [outls, List.foldl_cons, nodess, ← Nat.add_assoc c, Nat.mul_add, ← Nat.add_assoc n]
    exact this
theorem outl_le (p : Pat) : cnt p ≤ 3 → ∀ b, OLe (outl p b) (cnt p) (32 * p.nodes - 16) := by
  refine Pat.ind (C := fun p => cnt p ≤ 3 → ∀ b, OLe (outl p b) (cnt p) (32 * p.nodes - 16)) ?_ ?_ ?_ ?_ ?_ ?_ p
  · intro x _ b
    exact ⟨Nat.le_refl _, Nat.le_refl _, Nat.zero_le _⟩
  · intro ps h hc b
    have hc : cnts ps ≤ 3 := by simpa [cnt, cnts, namesAt] using hc
    have := rows_le ps b row0 0 0 (fun p hp b => h p hp (Nat.le_trans (cnt_mem hp) hc) b) ⟨Nat.le_refl _, Nat.le_refl _, Nat.le_refl _⟩ (by omega)
    rw [outl, Pat.nodes]
    have e : cnt (.row ps) = cnts ps := by unfold cnt cnts; rw [namesAt]
    rw [e]
    unfold rowEnd
    split
    · exact ⟨Nat.zero_le _, Nat.zero_le _, Nat.zero_le _⟩
    · exact ⟨by have := this.fs; simpa using this, by have := this.ls; simpa using this, by have := this.ps; show ((outls ps b).foldl rowStep row0).pairs.length ≤ _; omega⟩
  · intro ps h hc b
    have hc : cnts ps ≤ 3 := by simpa [cnt, cnts, namesAt] using hc
    have := anys_le ps b any0 0 0 (fun p hp b => h p hp (Nat.le_trans (cnt_mem hp) hc) b) ⟨Nat.le_refl _, Nat.le_refl _, Nat.le_refl _⟩ (by omega)
    rw [outl, Pat.nodes]
    have e : cnt (.any ps) = cnts ps := by unfold cnt cnts; rw [namesAt]
    rw [e]
    exact ⟨by have := this.fs; simpa using this, by have := this.ls; simpa using this, by have := this.ps; omega⟩
  · intro p h hc b
    have e : cnt (.may p) = cnt p := by unfold cnt; rw [namesAt]
    rw [e] at hc ⊢
    have q := h hc b
    rw [outl, Pat.nodes]
    exact ⟨q.fs, q.ls, by have := q.ps; show (outl p b).pairs.length ≤ _; omega⟩
  · intro p h hc b
    have e : cnt (.many p) = cnt p := by unfold cnt; rw [namesAt]
    rw [e] at hc ⊢
    have q := h hc b
    rw [outl, Pat.nodes]
    refine ⟨q.fs, q.ls, ?_⟩
    have h1 := q.ps
    have h2 := btw_le (Nat.le_trans q.ls hc) (Nat.le_trans q.fs hc)
    have hn : 1 ≤ p.nodes := by cases p <;> unfold Pat.nodes <;> omega
    show ((outl p b).pairs ++ btw (outl p b).lasts (outl p b).firsts).length ≤ _
    rw [List.length_append]; omega
  · intro p h hc b
    have e : cnt (.some p) = cnt p := by unfold cnt; rw [namesAt]
    rw [e] at hc ⊢
    have q := h hc b
    rw [outl, Pat.nodes]
    refine ⟨q.fs, q.ls, ?_⟩
    have h1 := q.ps
    have h2 := btw_le (Nat.le_trans q.ls hc) (Nat.le_trans q.fs hc)
    have hn : 1 ≤ p.nodes := by cases p <;> unfold Pat.nodes <;> omega
    show ((outl p b).pairs ++ btw (outl p b).lasts (outl p b).firsts).length ≤ _
    rw [List.length_append]; omega
/-! ### as data -/
def ppD (p : Nat × Nat) : Dt := .tup [nD p.1, nD p.2]
def encO (o : Out) : Dt := .tup [nD o.many, .bl o.void, .bl o.none, .lst (o.firsts.map nD), .lst (o.lasts.map nD), .lst (o.pairs.map ppD)]
/-- the kind's word, and what stands behind it -/
def kind : Pat → Str
  | .one _ => "one"
  | .row _ => "row"
  | .any _ => "any"
  | .may _ => "may"
  | .many _ => "many"
  | .some _ => "some"
def argP : Pat → Dt
  | .one x => .str x
  | .row ps => .tup (encPs ps)
  | .any ps => .tup (encPs ps)
  | .may p => encP p
  | .many p => encP p
  | .some p => encP p
theorem encP_eq (p : Pat) : encP p = .tup [.str (kind p), argP p] := by cases p <;> rfl
theorem kinds : ([("one" : Str), "row", "any", "may", "many", "some"]).Nodup := by decide +kernel
theorem k_one {p : Pat} (h : kind p = "one") : ∃ x, p = .one x := by
  cases p with
  | one x => exact ⟨x, rfl⟩
  | _ => refine absurd h ?_; simp only [kind]; decide +kernel
theorem k_row {p : Pat} (h : kind p = "row") : ∃ x, p = .row x := by
  cases p with
  | row x => exact ⟨x, rfl⟩
  | _ => refine absurd h ?_; simp only [kind]; decide +kernel
theorem k_any {p : Pat} (h : kind p = "any") : ∃ x, p = .any x := by
  cases p with
  | any x => exact ⟨x, rfl⟩
  | _ => refine absurd h ?_; simp only [kind]; decide +kernel
theorem k_may {p : Pat} (h : kind p = "may") : ∃ x, p = .may x := by
  cases p with
  | may x => exact ⟨x, rfl⟩
  | _ => refine absurd h ?_; simp only [kind]; decide +kernel
theorem k_many {p : Pat} (h : kind p = "many") : ∃ x, p = .many x := by
  cases p with
  | many x => exact ⟨x, rfl⟩
  | _ => refine absurd h ?_; simp only [kind]; decide +kernel
theorem k_some {p : Pat} (h : kind p = "some") : ∃ x, p = .some x := by
  cases p with
  | some x => exact ⟨x, rfl⟩
  | _ => refine absurd h ?_; simp only [kind]; decide +kernel
end DL

set_option Elab.async false
set_option linter.all false
set_option maxRecDepth 100000
set_option autoImplicit false
/-! E6: the defs of patterns. -/
namespace DL
open PySem PySem.Spec L2
theorem depth_pos (p : Pat) : 1 ≤ p.depth := by cases p <;> unfold Pat.depth <;> omega
theorem map_append' {α β : Type} (f : α → β) (l m : List α) : l.map f ++ m.map f = (l ++ m).map f := List.map_append.symm
section
variable {P : Program} {w : World} {K : PySem.W.Frag} {mg : Str → Option Value} {base : Heap}
def sNamesAt (n : Nat) : FS := fun as R => ∃ p, as = [.val (encP p)] ∧ p.depth ≤ n ∧ cnt p ≤ 1000 ∧ R (.lst ((namesAt p).map .str)) []
theorem d_names_at (M : Names mg) (h : Has K mg "names_at" (top 17) ["pattern"]) : ∀ n, DefOk P w K mg base "names_at" (n + 1) (sNamesAt n)
  | 0 => def_D h ["pattern", "names", "part"] ⟨rfl, rfl, rfl, by decide +kernel, rfl, by decide +kernel, by decide +kernel⟩ (fun as R ⟨_, e, _⟩ => by subst e; rfl) fun f cdv A outer s H E as R hr hu nd ⟨p, e, hd, _⟩ => absurd (depth_pos p) (by omega)
  | n + 1 => by
    have D := d_names_at M h n
    refine def_D h ["pattern", "names", "part"] ⟨rfl, rfl, rfl, by decide +kernel, rfl, by decide +kernel, by decide +kernel⟩ (fun as R ⟨_, e, _⟩ => by subst e; rfl) fun f cdv A outer s H E as R hr hu nd ⟨p, e, hd, hc, q⟩ => ?_
    subst e
    rw [encP_eq]
    refine s_cons (t_ifB _ (jt_cmp (j_ix (v_val (j_nm 0 rfl (j_int ⟨_, rfl, xd_tup rfl (v_val (j_str ⟨_, rfl, cd_eqS ⟨rfl, rfl⟩⟩))⟩))))) (fun h => ?_) (fun h => ?_))
    · obtain ⟨x, rfl⟩ := k_one (of_decide_eq_true h)
      refine s_cons (t_ret (j_lst (l_cons (j_ix (v_val (j_nm 0 rfl (j_int ⟨_, rfl, xd_tup rfl (l_nil ⟨_, rfl, q⟩)⟩)))))))
    refine s_nil ?_
    refine s_cons (t_ifB _ (jtb_bool (jwb_or (jt_cmp (j_ix (v_val (j_nm 0 rfl (j_int ⟨_, rfl, xd_tup rfl (v_val (j_str ⟨_, rfl, cd_eqS ⟨rfl, rfl⟩⟩))⟩))))) fun h => (jwb_or1 (jt_cmp (j_ix (v_val (j_nm 0 rfl (j_int ⟨_, rfl, xd_tup rfl (v_val (j_str ⟨_, rfl, cd_eqS ⟨rfl, rfl⟩⟩))⟩))))))) ⟨rfl, rfl⟩) (fun h => ?_) (fun h => ?_))
    · obtain ⟨ps, e1, e2, e3⟩ : ∃ ps, argP p = .tup (encPs ps) ∧ namesAt p = namesAts ps ∧ p.depth = depths ps + 1 := by
        rw [Bool.or_eq_true] at h
        rcases h with h | h
        · obtain ⟨ps, rfl⟩ := k_row (of_decide_eq_true h)
          exact ⟨ps, rfl, by rw [namesAt], by rw [Pat.depth]⟩
        · obtain ⟨ps, rfl⟩ := k_any (of_decide_eq_true h)
          exact ⟨ps, rfl, by rw [namesAt], by rw [Pat.depth]⟩
      rw [e2] at q
      unfold cnt at hc
      rw [e2, namesAts_eq] at hc
      rw [e3] at hd
      rw [e1, encPs_eq]
      refine s_cons (t_asg 1 (j_lst (l_nil ?_)) nd)
      refine s_cons (t_for (i_tup (j_ix (v_val (j_nm 0 rfl (j_int ⟨_, rfl, xd_tup rfl ⟨_, rfl, fun i ρ => ∃ d, ρ = [.val (.tup [.str (kind p), .tup (ps.map encP)]), .val (.lst (((ps.take i).flatMap namesAt).map .str)), d], ⟨_, rfl⟩, fun i d ρ hd ⟨_, e⟩ => ?_, fun ρ ⟨_, e⟩ => ?_⟩⟩))))))
      · subst e
        obtain ⟨x, hx, rfl⟩ := mget hd
        have hm := List.mem_of_getElem? hx
        have hdx := depth_mem hm
        have hsub : ((ps.take (i + 1)).flatMap namesAt).length ≤ 1000 := by
          have : ((ps.take (i + 1)).flatMap namesAt).length ≤ (ps.flatMap namesAt).length := by
            conv => rhs; rw [← List.take_append_drop (i + 1) ps, List.flatMap_append, List.length_append]
            omega
          omega
        rw [take_snoc hx, List.flatMap_append, List.length_append, show [x].flatMap namesAt = namesAt x by simp] at hsub
        have hs2 : (namesAt x).length ≤ 1000 := by omega
        refine g_nm 2 ?_ nd
        refine s_cons (t_asg 1 (j_bin (j_nm 1 rfl (j_call D hr (a_cons (v_val (j_nm 2 rfl (a_nil ⟨_, rfl, nd0, ⟨_, rfl, by omega, hs2, (bd_addL ?_ ?_)⟩⟩))))))) nd)
        · rw [List.length_map, List.length_map]
          have := szl
          omega
        refine s_nil ⟨.val (encP x), ?_⟩
        rw [map_append', take_snoc hx, List.flatMap_append]
        simp
        rfl
      · subst e
        refine s_cons (t_ret (j_nm 1 rfl ⟨_, rfl, ?_⟩))
        rw [List.length_map, List.take_length, ← namesAts_eq]
        exact q
    refine s_nil ?_
    obtain ⟨p2, e1, e2, e3⟩ : ∃ p2, argP p = encP p2 ∧ namesAt p = namesAt p2 ∧ p.depth = p2.depth + 1 := by
      cases p with
      | one x => exact absurd rfl (of_decide_eq_false ‹decide (kind (.one x) = "one") = false›)
      | row ps => exact absurd h (by simp [kind])
      | any ps => exact absurd h (by simp [kind])
      | may p => exact ⟨p, rfl, by rw [namesAt], by rw [Pat.depth]⟩
      | many p => exact ⟨p, rfl, by rw [namesAt], by rw [Pat.depth]⟩
      | some p => exact ⟨p, rfl, by rw [namesAt], by rw [Pat.depth]⟩
    rw [e2] at q
    unfold cnt at hc
    rw [e2] at hc
    rw [e3] at hd
    rw [e1]
    exact s_cons (t_ret (j_call D hr (a_cons (v_val (j_ix (v_val (j_nm 0 rfl (j_int ⟨_, rfl, xd_tup rfl (a_nil ⟨_, rfl, nd0, ⟨_, rfl, by omega, hc, ⟨_, rfl, q⟩⟩⟩)⟩))))))))
def sBtw : FS := fun as R => ∃ ls fs, as = [.val (.lst (ls.map nD)), .val (.lst (fs.map nD))] ∧ ls.length ≤ 3 ∧ fs.length ≤ 3 ∧ R (.lst ((btw ls fs).map ppD)) []
theorem d_pairs_between (M : Names mg) (h : Has K mg "pairs_between" (top 18) ["lasts", "firsts"]) : DefOk P w K mg base "pairs_between" 1 sBtw := by
  refine def_D h ["lasts", "firsts", "pairs", "one", "other"] ⟨rfl, rfl, rfl, by decide +kernel, rfl, by decide +kernel, by decide +kernel⟩ (fun as R ⟨_, _, e, _⟩ => by subst e; rfl) fun f cdv A outer s H E as R hr hu nd ⟨ls, fs, e, h1, h2, q⟩ => ?_
  subst e
  refine s_cons (t_asg 2 (j_lst (l_nil ?_)) nd)
  refine s_cons (t_for (i_lst (j_nm 0 rfl ⟨_, rfl, fun i ρ => ∃ d, ρ = [.val (.lst (ls.map nD)), .val (.lst (fs.map nD)), .val (.lst ((btw (ls.take i) fs).map ppD)), d, .un], ⟨_, rfl⟩, fun i d ρ hd ⟨_, e⟩ => ?_, fun ρ ⟨_, e⟩ => ?_⟩)))
  · subst e
    obtain ⟨x, hx, rfl⟩ := mget hd
    have hb : (btw (ls.take i) fs).length ≤ 16 := btw_le (by rw [List.length_take]; omega) h2
    refine g_nm 3 ?_ nd
    refine s_cons (t_asg 2 (j_bin (j_nm 2 rfl (j_comp [("other", 4)] fs nD (fun _ => true) (fun y => ppD (x, y)) (i_lst (j_nm 1 rfl ⟨_, rfl, ⟨rfl, rfl⟩⟩)) (small9 (by omega)) (fun y hy => turn_id fun _ _ _ _ _ => b_nm 4 (fun _ _ _ _ _ => (j_tup (l_cons (j_nm 3 rfl (l_cons (j_nm 4 rfl (l_nil ⟨rfl, rfl⟩))))))) (by decide) nd) (bd_addL ?_ ?_) nd (blk ["lasts", "firsts", "pairs", "one", "other"] (defScope (top 18)) (by decide +kernel))))) nd)
    · rw [filt_true, List.length_map, List.length_map]
      have := szl; omega
    refine s_nil ⟨.val (nD x), ?_⟩
    rw [filt_true, take_snoc hx]
    unfold btw
    rw [List.flatMap_append, List.map_append]
    simp
    rfl
  · subst e
    refine s_cons (t_ret (j_nm 2 rfl ⟨_, rfl, ?_⟩))
    rw [List.length_map, List.take_length]
    exact q
end
end DL

set_option Elab.async false
set_option linter.all false
set_option maxRecDepth 100000
set_option autoImplicit false
set_option maxHeartbeats 4000000
/-! E7: the defs of outlines. -/
namespace DL
open PySem PySem.Spec L2
/-- what stands within may, many, some -/
def inner : Pat → Pat
  | .may p => p
  | .many p => p
  | .some p => p
  | p => p
theorem outls_take : ∀ (ps : List Pat) (b i : Nat), (outls ps b).take i = outls (ps.take i) b
  | [], b, i => by simp [outls]
  | p :: ps, b, 0 => by simp [outls]
  | p :: ps, b, i + 1 => by rw [outls, List.take_succ_cons, outls_take ps, List.take_succ_cons, outls]
theorem nodess_take : ∀ (ps : List Pat) (i : Nat), nodess (ps.take i) ≤ nodess ps
  | [], i => by simp
  | p :: ps, 0 => by simp [nodess]
  | p :: ps, i + 1 => by rw [List.take_succ_cons, nodess, nodess]; have := nodess_take ps i; omega
theorem cnts_take : ∀ (ps : List Pat) (i : Nat), cnts (ps.take i) ≤ cnts ps
  | [], i => by simp
  | p :: ps, 0 => by simp [cnts, namesAts]
  | p :: ps, i + 1 => by
    have := cnts_take ps i
    unfold cnts at *
    rw [List.take_succ_cons, namesAts, namesAts, List.length_append, List.length_append]; omega
section
variable {P : Program} {w : World} {K : PySem.W.Frag} {mg : Str → Option Value} {base : Heap}
def sOutl (n : Nat) : FS := fun as R => ∃ p b, as = [.val (encP p), .val (nD b)] ∧ p.depth ≤ n ∧ p.nodes ≤ 100 ∧ cnt p ≤ 3 ∧ R (encO (outl p b)) []
def sRow (n : Nat) : FS := fun as R => ∃ ps b, as = [.val (.tup (encPs ps)), .val (nD b)] ∧ depths ps ≤ n ∧ nodess ps ≤ 100 ∧ cnts ps ≤ 3 ∧ R (encO (rowEnd ((outls ps b).foldl rowStep row0))) []
def sAny (n : Nat) : FS := fun as R => ∃ ps b, as = [.val (.tup (encPs ps)), .val (nD b)] ∧ depths ps ≤ n ∧ nodess ps ≤ 100 ∧ cnts ps ≤ 3 ∧ R (encO ((outls ps b).foldl anyStep any0)) []
theorem d_outline_of_row {n : Nat} (M : Names mg) (D : DefOk P w K mg base "outline" (2 * n + 1) (sOutl n)) (DB : DefOk P w K mg base "pairs_between" 1 sBtw) (h : Has K mg "outline_of_row" (top 20) ["parts", "base"]) : DefOk P w K mg base "outline_of_row" (2 * n + 2) (sRow n) := by
  refine def_D h ["parts", "base", "many", "void", "none", "firsts", "lasts", "pairs", "part", "inner"] ⟨rfl, rfl, rfl, by decide +kernel, rfl, by decide +kernel, by decide +kernel⟩ (fun as R ⟨_, _, e, _⟩ => by subst e; rfl) fun f cdv A outer s H E as R hr hu nd ⟨ps, b, e, hd, hn, hc, q⟩ => ?_
  subst e
  rw [encPs_eq]
  refine s_cons (t_asg 2 (j_int ?_) nd)
  refine s_cons (t_asg 3 (j_bl ?_) nd)
  refine s_cons (t_asg 4 (j_bl ?_) nd)
  refine s_cons (t_asg 5 (j_lst (l_nil ?_)) nd)
  refine s_cons (t_asg 6 (j_lst (l_nil ?_)) nd)
  refine s_cons (t_asg 7 (j_lst (l_nil ?_)) nd)
  refine s_cons (t_for (i_tup (j_nm 0 rfl ⟨_, rfl, fun i ρ => ∃ o d1 d2, o = ((outls ps b).take i).foldl rowStep row0 ∧ ρ = [.val (.tup (ps.map encP)), .val (nD b), .val (nD o.many), .val (.bl o.void), .val (.bl o.none), .val (.lst (o.firsts.map nD)), .val (.lst (o.lasts.map nD)), .val (.lst (o.pairs.map ppD)), d1, d2], ⟨_, _, _, rfl, rfl⟩, fun i d ρ hd ⟨o, _, _, eo, e⟩ => ?_, fun ρ ⟨o, _, _, eo, e⟩ => ?_⟩)))
  · subst e
    obtain ⟨x, hx, rfl⟩ := mget hd
    have hm := List.mem_of_getElem? hx
    have ex := outls_at ps b i x hx
    have em : o.many = sumMany ((outls ps b).take i) := by rw [eo, fold_many (fun _ _ => rfl)]; exact Nat.zero_add _
    rw [← em] at ex
    have hxd := depth_mem hm
    have hxn := nodes_mem hm
    have hxc := cnt_mem hm
    have le1 : OLe o 3 3200 := by
      rw [eo, outls_take]
      have c1 := cnts_take ps i
      have c2 := nodess_take ps i
      have := rows_le (ps.take i) b row0 0 0 (fun p hp b => outl_le p (Nat.le_trans (cnt_mem (List.mem_of_mem_take hp)) hc) b) ⟨Nat.le_refl _, Nat.le_refl _, Nat.le_refl _⟩ (by omega)
      exact ⟨Nat.le_trans this.fs (by omega), Nat.le_trans this.ls (by omega), Nat.le_trans this.ps (by omega)⟩
    have le2 := outl_le x (Nat.le_trans hxc hc) (b + o.many)
    have l1 := le1.fs
    have l2 := le1.ls
    have l3 := le1.ps
    have l4 := le2.fs
    have l5 := le2.ls
    have l6 := le2.ps
    have l7 := btw_le (ls := o.lasts) (fs := (outl x (b + o.many)).firsts) l2 (by omega)
    have hz := szl
    generalize hin : outl x (b + o.many) = inn at *
    refine g_nm 8 ?_ nd
    refine s_cons (t_asg 9 (j_call D hr (a_cons (v_val (j_nm 8 rfl (a_cons (v_val (j_bin (j_nm 1 rfl (j_nm 2 rfl (bd_add (a_nil ⟨_, rfl, nd0, ⟨x, b + o.many, rfl, by omega, by omega, by omega, ?_⟩⟩))))))))))) nd)
    rw [hin]
    refine s_cons (t_asg 2 (j_bin (j_nm 2 rfl (j_ix (v_val (j_nm 9 rfl (j_int ⟨_, rfl, xd_tup rfl (bd_add ?_)⟩)))))) nd)
    refine s_cons (t_asg 3 (jb_or (j_nm 3 rfl ⟨rfl, rfl⟩) (fun h => (j_ix (v_val (j_nm 9 rfl (j_int ⟨_, rfl, xd_tup rfl ⟨rfl, rfl⟩⟩))))) ?_) nd)
    refine s_cons (t_asg 7 (j_bin (j_bin (j_nm 7 rfl (j_ix (v_val (j_nm 9 rfl (j_int ⟨_, rfl, xd_tup rfl (bd_addL ?_ (j_call DB (hr.mono (by omega)) (a_cons (v_val (j_nm 6 rfl (a_cons (v_val (j_ix (v_val (j_nm 9 rfl (j_int ⟨_, rfl, xd_tup rfl (a_nil ⟨_, rfl, nd0, ⟨_, _, rfl, l2, by omega, (bd_addL ?_ ?_)⟩⟩)⟩)))))))))))⟩))))))) nd)
    · rw [List.length_map, List.length_map]; omega
    · rw [List.length_append, List.length_map, List.length_map, List.length_map]; omega
    refine s_cons (t_ifJ (fun ρ => ρ = [.val (.tup (ps.map encP)), .val (nD b), .val (nD (rowStep o inn).many), .val (.bl (rowStep o inn).void), .val (.bl o.none), .val (.lst ((rowStep o inn).firsts.map nD)), .val (.lst (o.lasts.map nD)), .val (.lst ((rowStep o inn).pairs.map ppD)), .val (encP x), .val (encO inn)]) o.none (jt_val (j_nm 4 rfl ⟨_, rfl, ⟨rfl, rfl⟩⟩)) (fun h => ?_) (fun h => ?_) fun ρ e => ?_)
    · refine s_cons (t_asg 5 (j_bin (j_nm 5 rfl (j_ix (v_val (j_nm 9 rfl (j_int ⟨_, rfl, xd_tup rfl (bd_addL ?_ ?_)⟩)))))) nd)
      · rw [List.length_map, List.length_map]; omega
      refine s_nil ?_
      unfold rowStep
      simp only [h, if_true, List.map_append]
      rfl
    · refine s_nil ?_
      unfold rowStep
      simp only [h, List.map_append]
      rfl
    subst e
    refine s_cons (t_ifJ (fun ρ => ρ = [.val (.tup (ps.map encP)), .val (nD b), .val (nD (rowStep o inn).many), .val (.bl (rowStep o inn).void), .val (.bl o.none), .val (.lst ((rowStep o inn).firsts.map nD)), .val (.lst ((rowStep o inn).lasts.map nD)), .val (.lst ((rowStep o inn).pairs.map ppD)), .val (encP x), .val (encO inn)]) inn.none (jt_val (j_ix (v_val (j_nm 9 rfl (j_int ⟨_, rfl, xd_tup rfl ⟨_, rfl, ⟨rfl, rfl⟩⟩⟩))))) (fun h => ?_) (fun h => ?_) fun ρ e => ?_)
    · refine s_cons (t_asg 6 (j_bin (j_nm 6 rfl (j_ix (v_val (j_nm 9 rfl (j_int ⟨_, rfl, xd_tup rfl (bd_addL ?_ ?_)⟩)))))) nd)
      · rw [List.length_map, List.length_map]; omega
      refine s_nil ?_
      have : (rowStep o inn).lasts = o.lasts ++ inn.lasts := by show (if inn.none = true then _ else _) = _; rw [if_pos h]
      rw [this, List.map_append]
      rfl
    · refine s_cons (t_asg 6 (j_ty "list" M.list (by decide +kernel) (a_cons (v_val (j_ix (v_val (j_nm 9 rfl (j_int ⟨_, rfl, xd_tup rfl (a_nil ⟨_, rfl, kd_lstL ?_⟩)⟩))))))) nd)
      refine s_nil ?_
      have : (rowStep o inn).lasts = inn.lasts := by show (if inn.none = true then _ else _) = _; rw [h]; rfl
      rw [this]
      rfl
    subst e
    refine s_cons (t_asg 4 (jb_and (j_nm 4 rfl ⟨rfl, rfl⟩) (fun h => (j_ix (v_val (j_nm 9 rfl (j_int ⟨_, rfl, xd_tup rfl ⟨rfl, rfl⟩⟩))))) ?_) nd)
    refine s_nil ⟨rowStep o inn, _, _, ?_, rfl⟩
    rw [fold_take ex, ← eo]
  · subst e
    have e2 : o = (outls ps b).foldl rowStep row0 := by rw [eo, List.length_map, ← outls_len ps b, List.take_length]
    rw [← e2] at q
    unfold rowEnd at q
    refine s_cons (t_ifB _ (jt_val (j_nm 3 rfl ⟨_, rfl, ⟨rfl, rfl⟩⟩)) (fun h => ?_) (fun h => ?_))
    · rw [if_pos h] at q
      refine s_cons (t_ret (j_tup (l_cons (j_nm 2 rfl (l_cons (j_bl (l_cons (j_bl (l_cons (j_lst (l_nil (l_cons (j_lst (l_nil (l_cons (j_lst (l_nil (l_nil ⟨_, rfl, q⟩))))))))))))))))))
    refine s_nil ?_
    rw [if_neg (by rw [h]; simp)] at q
    refine s_cons (t_ret (j_tup (l_cons (j_nm 2 rfl (l_cons (j_bl (l_cons (j_nm 4 rfl (l_cons (j_nm 5 rfl (l_cons (j_nm 6 rfl (l_cons (j_nm 7 rfl (l_nil ⟨_, rfl, q⟩)))))))))))))))
theorem d_outline_of_any {n : Nat} (M : Names mg) (D : DefOk P w K mg base "outline" (2 * n + 1) (sOutl n)) (h : Has K mg "outline_of_any" (top 21) ["parts", "base"]) : DefOk P w K mg base "outline_of_any" (2 * n + 2) (sAny n) := by
  refine def_D h ["parts", "base", "many", "void", "none", "firsts", "lasts", "pairs", "part", "inner"] ⟨rfl, rfl, rfl, by decide +kernel, rfl, by decide +kernel, by decide +kernel⟩ (fun as R ⟨_, _, e, _⟩ => by subst e; rfl) fun f cdv A outer s H E as R hr hu nd ⟨ps, b, e, hd, hn, hc, q⟩ => ?_
  subst e
  rw [encPs_eq]
  refine s_cons (t_asg 2 (j_int ?_) nd)
  refine s_cons (t_asg 3 (j_bl ?_) nd)
  refine s_cons (t_asg 4 (j_bl ?_) nd)
  refine s_cons (t_asg 5 (j_lst (l_nil ?_)) nd)
  refine s_cons (t_asg 6 (j_lst (l_nil ?_)) nd)
  refine s_cons (t_asg 7 (j_lst (l_nil ?_)) nd)
  refine s_cons (t_for (i_tup (j_nm 0 rfl ⟨_, rfl, fun i ρ => ∃ o d1 d2, o = ((outls ps b).take i).foldl anyStep any0 ∧ ρ = [.val (.tup (ps.map encP)), .val (nD b), .val (nD o.many), .val (.bl o.void), .val (.bl o.none), .val (.lst (o.firsts.map nD)), .val (.lst (o.lasts.map nD)), .val (.lst (o.pairs.map ppD)), d1, d2], ⟨_, _, _, rfl, rfl⟩, fun i d ρ hd ⟨o, _, _, eo, e⟩ => ?_, fun ρ ⟨o, _, _, eo, e⟩ => ?_⟩)))
  · subst e
    obtain ⟨x, hx, rfl⟩ := mget hd
    have hm := List.mem_of_getElem? hx
    have ex := outls_at ps b i x hx
    have em : o.many = sumMany ((outls ps b).take i) := by rw [eo, fold_many (fun _ _ => rfl)]; exact Nat.zero_add _
    rw [← em] at ex
    have hxd := depth_mem hm
    have hxn := nodes_mem hm
    have hxc := cnt_mem hm
    have le1 : OLe o 3 3200 := by
      rw [eo, outls_take]
      have c1 := cnts_take ps i
      have c2 := nodess_take ps i
      have := anys_le (ps.take i) b any0 0 0 (fun p hp b => outl_le p (Nat.le_trans (cnt_mem (List.mem_of_mem_take hp)) hc) b) ⟨Nat.le_refl _, Nat.le_refl _, Nat.le_refl _⟩ (by omega)
      exact ⟨Nat.le_trans this.fs (by omega), Nat.le_trans this.ls (by omega), Nat.le_trans this.ps (by omega)⟩
    have le2 := outl_le x (Nat.le_trans hxc hc) (b + o.many)
    have l1 := le1.fs
    have l2 := le1.ls
    have l3 := le1.ps
    have l4 := le2.fs
    have l5 := le2.ls
    have l6 := le2.ps
    have hz := szl
    generalize hin : outl x (b + o.many) = inn at *
    refine g_nm 8 ?_ nd
    refine s_cons (t_asg 9 (j_call D hr (a_cons (v_val (j_nm 8 rfl (a_cons (v_val (j_bin (j_nm 1 rfl (j_nm 2 rfl (bd_add (a_nil ⟨_, rfl, nd0, ⟨x, b + o.many, rfl, by omega, by omega, by omega, ?_⟩⟩))))))))))) nd)
    rw [hin]
    refine s_cons (t_asg 2 (j_bin (j_nm 2 rfl (j_ix (v_val (j_nm 9 rfl (j_int ⟨_, rfl, xd_tup rfl (bd_add ?_)⟩)))))) nd)
    refine s_cons (t_asg 3 (jb_and (j_nm 3 rfl ⟨rfl, rfl⟩) (fun h => (j_ix (v_val (j_nm 9 rfl (j_int ⟨_, rfl, xd_tup rfl ⟨rfl, rfl⟩⟩))))) ?_) nd)
    refine s_cons (t_asg 4 (jb_or (j_nm 4 rfl ⟨rfl, rfl⟩) (fun h => (j_ix (v_val (j_nm 9 rfl (j_int ⟨_, rfl, xd_tup rfl ⟨rfl, rfl⟩⟩))))) ?_) nd)
    refine s_cons (t_asg 5 (j_bin (j_nm 5 rfl (j_ix (v_val (j_nm 9 rfl (j_int ⟨_, rfl, xd_tup rfl (bd_addL ?_ ?_)⟩)))))) nd)
    · rw [List.length_map, List.length_map]; omega
    refine s_cons (t_asg 6 (j_bin (j_nm 6 rfl (j_ix (v_val (j_nm 9 rfl (j_int ⟨_, rfl, xd_tup rfl (bd_addL ?_ ?_)⟩)))))) nd)
    · rw [List.length_map, List.length_map]; omega
    refine s_cons (t_asg 7 (j_bin (j_nm 7 rfl (j_ix (v_val (j_nm 9 rfl (j_int ⟨_, rfl, xd_tup rfl (bd_addL ?_ ?_)⟩)))))) nd)
    · rw [List.length_map, List.length_map]; omega
    refine s_nil ⟨anyStep o inn, .val (encP x), .val (encO inn), ?_, ?_⟩
    · rw [fold_take ex, ← eo]
    · unfold anyStep
      simp only [List.map_append]
      rfl
  · subst e
    have e2 : o = (outls ps b).foldl anyStep any0 := by rw [eo, List.length_map, ← outls_len ps b, List.take_length]
    rw [← e2] at q
    refine s_cons (t_ret (j_tup (l_cons (j_nm 2 rfl (l_cons (j_nm 3 rfl (l_cons (j_nm 4 rfl (l_cons (j_nm 5 rfl (l_cons (j_nm 6 rfl (l_cons (j_nm 7 rfl (l_nil ⟨_, rfl, q⟩)))))))))))))))
theorem d_outline (M : Names mg) (DB : DefOk P w K mg base "pairs_between" 1 sBtw) (h : Has K mg "outline" (top 19) ["pattern", "base"]) (h2 : Has K mg "outline_of_row" (top 20) ["parts", "base"]) (h3 : Has K mg "outline_of_any" (top 21) ["parts", "base"]) : ∀ n, DefOk P w K mg base "outline" (2 * n + 1) (sOutl n)
  | 0 => def_D h ["pattern", "base", "inner", "pairs"] ⟨rfl, rfl, rfl, by decide +kernel, rfl, by decide +kernel, by decide +kernel⟩ (fun as R ⟨_, _, e, _⟩ => by subst e; rfl) fun f cdv A outer s H E as R hr hu nd ⟨p, _, e, hd, _⟩ => absurd (depth_pos p) (by omega)
  | n + 1 => by
    have D := d_outline M DB h h2 h3 n
    have D2 := d_outline_of_row M D DB h2
    have D3 := d_outline_of_any M D h3
    refine def_D (k := 2 * n + 2) h ["pattern", "base", "inner", "pairs"] ⟨rfl, rfl, rfl, by decide +kernel, rfl, by decide +kernel, by decide +kernel⟩ (fun as R ⟨_, _, e, _⟩ => by subst e; rfl) fun f cdv A outer s H E as R hr hu nd ⟨p, b, e, hd, hn, hc, q⟩ => ?_
    subst e
    rw [encP_eq]
    refine s_cons (t_ifB _ (jt_cmp (j_ix (v_val (j_nm 0 rfl (j_int ⟨_, rfl, xd_tup rfl (v_val (j_str ⟨_, rfl, cd_eqS ⟨rfl, rfl⟩⟩))⟩))))) (fun h => ?_) (fun h => ?_))
    · obtain ⟨x, rfl⟩ := k_one (of_decide_eq_true h)
      refine s_cons (t_ret (j_tup (l_cons (j_int (l_cons (j_bl (l_cons (j_bl (l_cons (j_lst (l_cons (j_bin (j_nm 1 rfl (j_int (bd_add (l_nil (l_cons (j_lst (l_cons (j_bin (j_nm 1 rfl (j_int (bd_add (l_nil (l_cons (j_lst (l_nil (l_nil ⟨_, rfl, q⟩))))))))))))))))))))))))))))
    refine s_nil ?_
    have no1 := of_decide_eq_false h
    refine s_cons (t_ifB _ (jt_cmp (j_ix (v_val (j_nm 0 rfl (j_int ⟨_, rfl, xd_tup rfl (v_val (j_str ⟨_, rfl, cd_eqS ⟨rfl, rfl⟩⟩))⟩))))) (fun h => ?_) (fun h => ?_))
    · obtain ⟨ps, rfl⟩ := k_row (of_decide_eq_true h)
      rw [Pat.depth] at hd
      rw [Pat.nodes] at hn
      rw [outl] at q
      have hc : cnts ps ≤ 3 := by simpa [cnt, cnts, namesAt] using hc
      refine s_cons (t_ret (j_call D2 hr (a_cons (v_val (j_ix (v_val (j_nm 0 rfl (j_int ⟨_, rfl, xd_tup rfl (a_cons (v_val (j_nm 1 rfl (a_nil ⟨_, rfl, nd0, ⟨_, _, rfl, by omega, by omega, hc, ⟨_, rfl, q⟩⟩⟩))))⟩))))))))
    refine s_nil ?_
    have no2 := of_decide_eq_false h
    refine s_cons (t_ifB _ (jt_cmp (j_ix (v_val (j_nm 0 rfl (j_int ⟨_, rfl, xd_tup rfl (v_val (j_str ⟨_, rfl, cd_eqS ⟨rfl, rfl⟩⟩))⟩))))) (fun h => ?_) (fun h => ?_))
    · obtain ⟨ps, rfl⟩ := k_any (of_decide_eq_true h)
      rw [Pat.depth] at hd
      rw [Pat.nodes] at hn
      rw [outl] at q
      have hc : cnts ps ≤ 3 := by simpa [cnt, cnts, namesAt] using hc
      refine s_cons (t_ret (j_call D3 hr (a_cons (v_val (j_ix (v_val (j_nm 0 rfl (j_int ⟨_, rfl, xd_tup rfl (a_cons (v_val (j_nm 1 rfl (a_nil ⟨_, rfl, nd0, ⟨_, _, rfl, by omega, by omega, hc, ⟨_, rfl, q⟩⟩⟩))))⟩))))))))
    refine s_nil ?_
    have no3 := of_decide_eq_false h
    obtain ⟨e1, e2, e3, e4⟩ : argP p = encP (inner p) ∧ cnt p = cnt (inner p) ∧ p.depth = (inner p).depth + 1 ∧ p.nodes = (inner p).nodes + 1 := by
      unfold cnt
      cases p with
      | one x => exact absurd rfl no1
      | row ps => exact absurd rfl no2
      | any ps => exact absurd rfl no3
      | may p => exact ⟨rfl, by rw [namesAt]; rfl, by rw [Pat.depth]; rfl, by rw [Pat.nodes]; rfl⟩
      | many p => exact ⟨rfl, by rw [namesAt]; rfl, by rw [Pat.depth]; rfl, by rw [Pat.nodes]; rfl⟩
      | some p => exact ⟨rfl, by rw [namesAt]; rfl, by rw [Pat.depth]; rfl, by rw [Pat.nodes]; rfl⟩
    rw [e1]
    have le2 := outl_le (inner p) (by omega) b
    have l4 := le2.fs
    have l5 := le2.ls
    have l6 := le2.ps
    have l7 := btw_le (ls := (outl (inner p) b).lasts) (fs := (outl (inner p) b).firsts) (by omega) (by omega)
    have hz := szl
    refine s_cons (t_asg 2 (j_call D (hr.mono (by omega)) (a_cons (v_val (j_ix (v_val (j_nm 0 rfl (j_int ⟨_, rfl, xd_tup rfl (a_cons (v_val (j_nm 1 rfl (a_nil ⟨_, rfl, nd0, ⟨(inner p), b, rfl, by omega, by omega, by omega, ?_⟩⟩))))⟩))))))) nd)
    refine s_cons (t_ifB _ (jt_cmp (j_ix (v_val (j_nm 0 rfl (j_int ⟨_, rfl, xd_tup rfl (v_val (j_str ⟨_, rfl, cd_eqS ⟨rfl, rfl⟩⟩))⟩))))) (fun h => ?_) (fun h => ?_))
    · obtain ⟨p3, rfl⟩ := k_may (of_decide_eq_true h)
      rw [outl] at q
      refine s_cons (t_ret (j_tup (l_cons (j_ix (v_val (j_nm 2 rfl (j_int ⟨_, rfl, xd_tup rfl (l_cons (j_bl (l_cons (j_bl (l_cons (j_ix (v_val (j_nm 2 rfl (j_int ⟨_, rfl, xd_tup rfl (l_cons (j_ix (v_val (j_nm 2 rfl (j_int ⟨_, rfl, xd_tup rfl (l_cons (j_ix (v_val (j_nm 2 rfl (j_int ⟨_, rfl, xd_tup rfl (l_nil ⟨_, rfl, q⟩)⟩)))))⟩)))))⟩)))))))))⟩)))))))
    refine s_nil ?_
    have no4 := of_decide_eq_false h
    refine s_cons (t_asg 3 (j_bin (j_ix (v_val (j_nm 2 rfl (j_int ⟨_, rfl, xd_tup rfl (j_call DB (hr.mono (by omega)) (a_cons (v_val (j_ix (v_val (j_nm 2 rfl (j_int ⟨_, rfl, xd_tup rfl (a_cons (v_val (j_ix (v_val (j_nm 2 rfl (j_int ⟨_, rfl, xd_tup rfl (a_nil ⟨_, rfl, nd0, ⟨_, _, rfl, by omega, by omega, (bd_addL ?_ ?_)⟩⟩)⟩))))))⟩)))))))⟩))))) nd)
    · rw [List.length_map, List.length_map]; omega
    rw [map_append']
    refine s_cons (t_ifB _ (jt_cmp (j_ix (v_val (j_nm 0 rfl (j_int ⟨_, rfl, xd_tup rfl (v_val (j_str ⟨_, rfl, cd_eqS ⟨rfl, rfl⟩⟩))⟩))))) (fun h => ?_) (fun h => ?_))
    · obtain ⟨p3, rfl⟩ := k_many (of_decide_eq_true h)
      rw [outl] at q
      refine s_cons (t_ret (j_tup (l_cons (j_ix (v_val (j_nm 2 rfl (j_int ⟨_, rfl, xd_tup rfl (l_cons (j_bl (l_cons (j_bl (l_cons (j_ix (v_val (j_nm 2 rfl (j_int ⟨_, rfl, xd_tup rfl (l_cons (j_ix (v_val (j_nm 2 rfl (j_int ⟨_, rfl, xd_tup rfl (l_cons (j_nm 3 rfl (l_nil ⟨_, rfl, q⟩)))⟩)))))⟩)))))))))⟩)))))))
    refine s_nil ?_
    have no5 := of_decide_eq_false h
    obtain ⟨p3, rfl⟩ : ∃ p3, p = .some p3 := by
      cases p with
      | one x => exact absurd rfl no1
      | row ps => exact absurd rfl no2
      | any ps => exact absurd rfl no3
      | may p => exact absurd rfl no4
      | many p => exact absurd rfl no5
      | some p => exact ⟨p, rfl⟩
    rw [outl] at q
    refine s_cons (t_ret (j_tup (l_cons (j_ix (v_val (j_nm 2 rfl (j_int ⟨_, rfl, xd_tup rfl (l_cons (j_ix (v_val (j_nm 2 rfl (j_int ⟨_, rfl, xd_tup rfl (l_cons (j_ix (v_val (j_nm 2 rfl (j_int ⟨_, rfl, xd_tup rfl (l_cons (j_ix (v_val (j_nm 2 rfl (j_int ⟨_, rfl, xd_tup rfl (l_cons (j_ix (v_val (j_nm 2 rfl (j_int ⟨_, rfl, xd_tup rfl (l_cons (j_nm 3 rfl (l_nil ⟨_, rfl, q⟩)))⟩)))))⟩)))))⟩)))))⟩)))))⟩)))))))
end
end DL

set_option Elab.async false
set_option linter.all false
set_option maxRecDepth 100000
set_option autoImplicit false
set_option maxHeartbeats 4000000
/-! E8: places of a pattern as they are told; schemas; labels. -/
namespace DL
open PySem PySem.Spec L2
section
variable {X : Cx} {ρ : Env} {R : DP} {a : Expr} {p p2 q pos : Pos}
theorem j_sortedSetN (hu : X.A.units + 64 < cLine) (hm : X.mg "sorted" = none) (hm2 : X.mg "set" = none) (h : JE X a ρ fun d ρ1 => ∃ ns : List Nat, d = .lst (ns.map nD) ∧ ns.length ≤ 4000 ∧ ∀ M : List Nat, Asc leN M → (∀ x, x ∈ M ↔ x ∈ ns) → R (.lst (M.map nD)) ρ1)
    (hg : Gl X "sorted" := by rfl) (hg2 : Gl X "set" := by rfl) (hc : X.calm = true := by rfl) (na : starEach [a] X.env = (false, eval a X.env) :: starEach [] X.env := by rfl) : JE X (.Call (.Name "sorted" p) [.Call (.Name "set" p2) [a] [] q] [] pos) ρ R :=
  j_sortedSet hu hm hm2 (h.imp fun d ρ1 ⟨ns, e, hz, q⟩ => ⟨ns.map kN, by rw [e, keysN], by rw [List.length_map]; exact hz, set_sortN (R := fun d => R d ρ1) (by rw [szl]; omega) q⟩) hg hg2 hc na
theorem j_sortedSetS (hu : X.A.units + 64 < cLine) (hm : X.mg "sorted" = none) (hm2 : X.mg "set" = none) (h : JE X a ρ fun d ρ1 => ∃ ns : List Str, d = .lst (ns.map Dt.str) ∧ ns.length ≤ 4000 ∧ ∀ M : List Str, Asc leS M → (∀ x, x ∈ M ↔ x ∈ ns) → R (.lst (M.map Dt.str)) ρ1)
    (hg : Gl X "sorted" := by rfl) (hg2 : Gl X "set" := by rfl) (hc : X.calm = true := by rfl) (na : starEach [a] X.env = (false, eval a X.env) :: starEach [] X.env := by rfl) : JE X (.Call (.Name "sorted" p) [.Call (.Name "set" p2) [a] [] q] [] pos) ρ R :=
  j_sortedSet hu hm hm2 (h.imp fun d ρ1 ⟨ns, e, hz, q⟩ => ⟨ns.map kS, by rw [e, keysS], by rw [List.length_map]; exact hz, set_sortS (R := fun d => R d ρ1) (by rw [szl]; omega) q⟩) hg hg2 hc na
end
/-! ### where an outline's places stand -/
structure OIn (o : Out) (b c : Nat) : Prop where
  fs : ∀ x ∈ o.firsts, b < x ∧ x ≤ c
  ls : ∀ x ∈ o.lasts, b < x ∧ x ≤ c
  ps : ∀ x ∈ o.pairs, (b < x.1 ∧ x.1 ≤ c) ∧ b < x.2 ∧ x.2 ≤ c
theorem mem_btw {ls fs : List Nat} {x : Nat × Nat} : x ∈ btw ls fs ↔ x.1 ∈ ls ∧ x.2 ∈ fs := by
  unfold btw
  rw [List.mem_flatMap]
  constructor
  · rintro ⟨a, ha, hx⟩
    obtain ⟨b, hb, rfl⟩ := List.mem_map.mp hx
    exact ⟨ha, hb⟩
  · intro ⟨h1, h2⟩
    exact ⟨x.1, h1, List.mem_map.mpr ⟨x.2, h2, rfl⟩⟩
theorem OIn.mono {o : Out} {b c b' c' : Nat} (h : OIn o b c) (h1 : b' ≤ b) (h2 : c ≤ c') : OIn o b' c' :=
  ⟨fun x hx => by have := h.fs x hx; omega, fun x hx => by have := h.ls x hx; omega, fun x hx => by have := h.ps x hx; omega⟩
theorem rowStep_in {s i : Out} {b c : Nat} (h1 : OIn s b c) (h2 : OIn i b c) : OIn (rowStep s i) b c := by
  refine ⟨fun x hx => ?_, fun x hx => ?_, fun x hx => ?_⟩
  · have hx : x ∈ (if s.none = true then s.firsts ++ i.firsts else s.firsts) := hx
    split at hx
    · exact (List.mem_append.mp hx).elim (h1.fs x) (h2.fs x)
    · exact h1.fs x hx
  · have hx : x ∈ (if i.none = true then s.lasts ++ i.lasts else i.lasts) := hx
    split at hx
    · exact (List.mem_append.mp hx).elim (h1.ls x) (h2.ls x)
    · exact h2.ls x hx
  · have hx : x ∈ s.pairs ++ i.pairs ++ btw s.lasts i.firsts := hx
    rcases List.mem_append.mp hx with hx | hx
    · exact (List.mem_append.mp hx).elim (h1.ps x) (h2.ps x)
    · have := mem_btw.mp hx
      exact ⟨h1.ls _ this.1, h2.fs _ this.2⟩
theorem anyStep_in {s i : Out} {b c : Nat} (h1 : OIn s b c) (h2 : OIn i b c) : OIn (anyStep s i) b c := by
  refine ⟨fun x hx => ?_, fun x hx => ?_, fun x hx => ?_⟩
  · exact (List.mem_append.mp (show x ∈ s.firsts ++ i.firsts from hx)).elim (h1.fs x) (h2.fs x)
  · exact (List.mem_append.mp (show x ∈ s.lasts ++ i.lasts from hx)).elim (h1.ls x) (h2.ls x)
  · exact (List.mem_append.mp (show x ∈ s.pairs ++ i.pairs from hx)).elim (h1.ps x) (h2.ps x)
theorem fold_in {f : Out → Out → Out} (hf : ∀ s i b c, OIn s b c → OIn i b c → OIn (f s i) b c) : ∀ (ps : List Pat) (a b : Nat) (s : Out), (∀ p ∈ ps, ∀ b, OIn (outl p b) b (b + cnt p)) → a ≤ b → OIn s a b → OIn ((outls ps b).foldl f s) a (b + cnts ps)
  | [], a, b, s, _, _, h => by simpa [outls, cnts, namesAts] using h
  | p :: ps, a, b, s, hp, hab, h => by
    have e : cnts (p :: ps) = cnt p + cnts ps := by unfold cnts cnt; rw [namesAts, List.length_append]
    have q := hp p List.mem_cons_self b
    have := fold_in hf ps a (b + cnt p) (f s (outl p b)) (fun p hq => hp p (List.mem_cons_of_mem _ hq)) (by omega) (hf _ _ _ _ (h.mono (Nat.le_refl _) (by omega)) (q.mono hab (Nat.le_refl _)))
    rw [outls, List.foldl_cons, e, many_cnt, ← Nat.add_assoc]
    exact this
theorem outl_in (p : Pat) : ∀ b, OIn (outl p b) b (b + cnt p) := by
  have e0 : ∀ b, OIn row0 b b := fun b => ⟨fun x h => absurd h (by simp [row0]), fun x h => absurd h (by simp [row0]), fun x h => absurd h (by simp [row0])⟩
  have e1 : ∀ b, OIn any0 b b := fun b => ⟨fun x h => absurd h (by simp [any0]), fun x h => absurd h (by simp [any0]), fun x h => absurd h (by simp [any0])⟩
  refine Pat.ind (C := fun p => ∀ b, OIn (outl p b) b (b + cnt p)) ?_ ?_ ?_ ?_ ?_ ?_ p
  · intro x b
    rw [outl]
    exact ⟨fun x h => by simp at h; subst h; simp [cnt, namesAt], fun x h => by simp at h; subst h; simp [cnt, namesAt], fun x h => absurd h (by simp)⟩
  · intro ps h b
    rw [outl, show cnt (.row ps) = cnts ps by unfold cnt cnts; rw [namesAt]]
    have := fold_in (fun _ _ _ _ => rowStep_in) ps b b row0 h (Nat.le_refl _) (e0 b)
    unfold rowEnd
    split
    · exact ⟨fun x h => absurd h (by simp), fun x h => absurd h (by simp), fun x h => absurd h (by simp)⟩
    · exact ⟨this.fs, this.ls, this.ps⟩
  · intro ps h b
    rw [outl, show cnt (.any ps) = cnts ps by unfold cnt cnts; rw [namesAt]]
    exact fold_in (fun _ _ _ _ => anyStep_in) ps b b any0 h (Nat.le_refl _) (e1 b)
  · intro p h b
    rw [outl, show cnt (.may p) = cnt p by unfold cnt; rw [namesAt]]
    exact ⟨(h b).fs, (h b).ls, (h b).ps⟩
  · intro p h b
    rw [outl, show cnt (.many p) = cnt p by unfold cnt; rw [namesAt]]
    refine ⟨(h b).fs, (h b).ls, fun x hx => ?_⟩
    rcases List.mem_append.mp hx with hx | hx
    · exact (h b).ps x hx
    · have := mem_btw.mp hx
      exact ⟨(h b).ls _ this.1, (h b).fs _ this.2⟩
  · intro p h b
    rw [outl, show cnt (.some p) = cnt p by unfold cnt; rw [namesAt]]
    refine ⟨(h b).fs, (h b).ls, fun x hx => ?_⟩
    rcases List.mem_append.mp hx with hx | hx
    · exact (h b).ps x hx
    · have := mem_btw.mp hx
      exact ⟨(h b).ls _ this.1, (h b).fs _ this.2⟩
structure WfP (p : Pat) : Prop where
  depth : p.depth ≤ 30
  nodes : p.nodes ≤ 100
  cnt : cnt p ≤ 3
/-- a pattern's outline -/
abbrev og (p : Pat) : Out := outl p 0
theorem og_in (p : Pat) : OIn (og p) 0 (cnt p) := by have := outl_in p 0; rwa [Nat.zero_add] at this
/-- the places behind each place -/
structure NextRows (p : Pat) (rows : List (List Nat)) : Prop where
  len : rows.length = cnt p
  at' : ∀ i r, rows[i]? = some r → (∀ j, j ∈ r ↔ (i + 1, j) ∈ (og p).pairs) ∧ Asc leN r
theorem asc_few {r : List Nat} {n : Nat} (h : Asc leN r) (hb : ∀ j ∈ r, 0 < j ∧ j ≤ n) : r.length ≤ n := by
  have := le_of_sub (ns := (List.range n).map (· + 1)) h.nodup fun x hx => by
    have := hb x hx
    exact List.mem_map.mpr ⟨x - 1, List.mem_range.mpr (by omega), by omega⟩
  simpa using this
theorem NextRows.few {p : Pat} {rows : List (List Nat)} (h : NextRows p rows) {r : List Nat} (hr : r ∈ rows) : r.length ≤ cnt p := by
  obtain ⟨i, hi⟩ := List.getElem?_of_mem hr
  obtain ⟨q1, q2⟩ := h.at' i r hi
  exact asc_few q2 fun j hj => by
    have := ((og_in p).ps _ ((q1 j).mp hj)).2
    exact this
/-! ### schemas -/
structure Rule where
  name : Str
  tag : Str
  mark : Str
  pat : Pat
structure Schema where
  roots : List Str
  rules : List Rule
def encR (r : Rule) : Dt := .tup [.str r.name, .str r.tag, .str r.mark, encP r.pat]
def encS (s : Schema) : Dt := .tup [.tup (s.roots.map .str), .tup (s.rules.map encR), .tup []]
def fits (r : Rule) (l : Str) : Bool := if l = r.tag then !decide (r.mark = ":") else decide (l = r.tag ++ ":") && !decide (r.mark = "-")
structure WfS (s : Schema) : Prop where
  few : s.rules.length ≤ 5
  names : (s.rules.map Rule.name).Nodup
  tags : ∀ r ∈ s.rules, tagOk r.tag
  pats : ∀ r ∈ s.rules, WfP r.pat
  total : (s.rules.map fun r => cnt r.pat).sum ≤ 6
  roots : s.roots.length ≤ 10
  three : ∃ ts : List Str, ts.length ≤ 3 ∧ ∀ r ∈ s.rules, r.tag ∈ ts
theorem fits_cases {r : Rule} {l : Str} (h : fits r l = true) : l = r.tag ∨ l = r.tag ++ ":" := by
  unfold fits at h
  split at h
  · left; assumption
  · simp at h; right; exact h.1
theorem fits_lab {s : Schema} (w : WfS s) {r : Rule} (hr : r ∈ s.rules) {l : Str} (h : fits r l = true) : isLab l := by
  have ht := w.tags r hr
  rcases fits_cases h with e | e
  · left; rw [e]; exact ht
  · right; exact ⟨_, ht, e⟩
def lbls (rs : List Rule) : List Str := rs.flatMap fun r => ([r.tag, r.tag ++ ":"] : List Str).filter (fits r)
theorem mem_lbls {rs : List Rule} {l : Str} : l ∈ lbls rs ↔ ∃ r ∈ rs, fits r l = true := by
  unfold lbls
  rw [List.mem_flatMap]
  constructor
  · rintro ⟨r, hr, h⟩
    exact ⟨r, hr, (List.mem_filter.mp h).2⟩
  · rintro ⟨r, hr, h⟩
    refine ⟨r, hr, List.mem_filter.mpr ⟨?_, h⟩⟩
    rcases fits_cases h with e | e <;> simp [e]
theorem lbls_len (rs : List Rule) : (lbls rs).length ≤ 2 * rs.length := by
  unfold lbls
  induction rs with
  | nil => simp
  | cons r rs ih =>
    rw [List.flatMap_cons, List.length_append, List.length_cons]
    have := List.length_filter_le (fits r) ([r.tag, r.tag ++ ":"] : List Str)
    have e : ([r.tag, r.tag ++ ":"] : List Str).length = 2 := rfl
    omega
section
variable {P : Program} {w : World} {K : PySem.W.Frag} {mg : Str → Option Value} {base : Heap}
def sVoid : FS := fun as R => ∃ p, as = [.val (encP p)] ∧ WfP p ∧ R (.bl (og p).void) []
def sNone : FS := fun as R => ∃ p, as = [.val (encP p)] ∧ WfP p ∧ R (.bl (og p).none) []
def sFirst : FS := fun as R => ∃ p, as = [.val (encP p)] ∧ WfP p ∧ R (.lst (((og p).firsts.mergeSort leN).map nD)) []
def sLast : FS := fun as R => ∃ p, as = [.val (encP p)] ∧ WfP p ∧ R (.lst (((og p).lasts.mergeSort leN).map nD)) []
def sNext : FS := fun as R => ∃ p, as = [.val (encP p)] ∧ WfP p ∧ ∀ rows, NextRows p rows → R (.lst (rows.map rowD)) []
theorem d_is_void (M : Names mg) (D : DefOk P w K mg base "outline" (2 * 30 + 1) (sOutl 30)) (h : Has K mg "is_void" (top 22) ["pattern"]) : DefOk P w K mg base "is_void" 62 sVoid := by
  refine def_D h ["pattern"] ⟨rfl, rfl, rfl, by decide +kernel, rfl, by decide +kernel, by decide +kernel⟩ (fun as R ⟨_, e, _⟩ => by subst e; rfl) fun f cdv A outer s H E as R hr hu nd ⟨p, e, wf, q⟩ => ?_
  subst e
  exact s_cons (t_ret (j_ix (v_val (j_call D hr (a_cons (v_val (j_nm 0 rfl (a_cons (v_val (j_int (a_nil ⟨_, rfl, nd0, ⟨p, 0, rfl, wf.depth, wf.nodes, wf.cnt, (j_int ⟨_, rfl, xd_tup rfl ⟨_, rfl, q⟩⟩)⟩⟩)))))))))))
theorem d_takes_none (M : Names mg) (D : DefOk P w K mg base "outline" (2 * 30 + 1) (sOutl 30)) (h : Has K mg "takes_none" (top 23) ["pattern"]) : DefOk P w K mg base "takes_none" 62 sNone := by
  refine def_D h ["pattern"] ⟨rfl, rfl, rfl, by decide +kernel, rfl, by decide +kernel, by decide +kernel⟩ (fun as R ⟨_, e, _⟩ => by subst e; rfl) fun f cdv A outer s H E as R hr hu nd ⟨p, e, wf, q⟩ => ?_
  subst e
  exact s_cons (t_ret (j_ix (v_val (j_call D hr (a_cons (v_val (j_nm 0 rfl (a_cons (v_val (j_int (a_nil ⟨_, rfl, nd0, ⟨p, 0, rfl, wf.depth, wf.nodes, wf.cnt, (j_int ⟨_, rfl, xd_tup rfl ⟨_, rfl, q⟩⟩)⟩⟩)))))))))))
theorem d_first_places (M : Names mg) (D : DefOk P w K mg base "outline" (2 * 30 + 1) (sOutl 30)) (h : Has K mg "first_places" (top 24) ["pattern"]) : DefOk P w K mg base "first_places" 62 sFirst := by
  refine def_D h ["pattern"] ⟨rfl, rfl, rfl, by decide +kernel, rfl, by decide +kernel, by decide +kernel⟩ (fun as R ⟨_, e, _⟩ => by subst e; rfl) fun f cdv A outer s H E as R hr hu nd ⟨p, e, wf, q⟩ => ?_
  subst e
  have h1 := (outl_le p wf.cnt 0).fs
  have h2 := wf.cnt
  refine s_cons (t_ret (j_blt "sorted" M.sorted (by decide +kernel) (a_cons (v_val (j_ix (v_val (j_call D hr (a_cons (v_val (j_nm 0 rfl (a_cons (v_val (j_int (a_nil ⟨_, rfl, nd0, ⟨p, 0, rfl, wf.depth, wf.nodes, wf.cnt, (j_int ⟨_, rfl, xd_tup rfl (a_nil ⟨_, rfl, kd_sort hu (canN (small9 (by omega))) ⟨_, rfl, ?_⟩⟩)⟩)⟩⟩))))))))))))))
  rw [sortN]
  exact q
theorem d_last_places (M : Names mg) (D : DefOk P w K mg base "outline" (2 * 30 + 1) (sOutl 30)) (h : Has K mg "last_places" (top 25) ["pattern"]) : DefOk P w K mg base "last_places" 62 sLast := by
  refine def_D h ["pattern"] ⟨rfl, rfl, rfl, by decide +kernel, rfl, by decide +kernel, by decide +kernel⟩ (fun as R ⟨_, e, _⟩ => by subst e; rfl) fun f cdv A outer s H E as R hr hu nd ⟨p, e, wf, q⟩ => ?_
  subst e
  have h1 := (outl_le p wf.cnt 0).ls
  have h2 := wf.cnt
  refine s_cons (t_ret (j_blt "sorted" M.sorted (by decide +kernel) (a_cons (v_val (j_ix (v_val (j_call D hr (a_cons (v_val (j_nm 0 rfl (a_cons (v_val (j_int (a_nil ⟨_, rfl, nd0, ⟨p, 0, rfl, wf.depth, wf.nodes, wf.cnt, (j_int ⟨_, rfl, xd_tup rfl (a_nil ⟨_, rfl, kd_sort hu (canN (small9 (by omega))) ⟨_, rfl, ?_⟩⟩)⟩)⟩⟩))))))))))))))
  rw [sortN]
  exact q
theorem d_next_places (M : Names mg) (D : DefOk P w K mg base "outline" (2 * 30 + 1) (sOutl 30)) (h : Has K mg "next_places" (top 26) ["pattern"]) : DefOk P w K mg base "next_places" 62 sNext := by
  refine def_D h ["pattern", "told", "rows", "place", "pair"] ⟨rfl, rfl, rfl, by decide +kernel, rfl, by decide +kernel, by decide +kernel⟩ (fun as R ⟨_, e, _⟩ => by subst e; rfl) fun f cdv A outer s H E as R hr hu nd ⟨p, e, wf, q⟩ => ?_
  subst e
  have h1 := (outl_le p wf.cnt 0).ps
  have h2 := wf.nodes
  have h3 := wf.cnt
  have hc : (og p).many = cnt p := many_cnt p 0
  have hc2 : (outl p 0).many = cnt p := hc
  have h1b : (og p).pairs.length ≤ 32 * p.nodes - 16 := h1
  have hz := szl
  refine s_cons (t_asg 1 (j_call D hr (a_cons (v_val (j_nm 0 rfl (a_cons (v_val (j_int (a_nil ⟨_, rfl, nd0, ⟨p, 0, rfl, wf.depth, wf.nodes, wf.cnt, ?_⟩⟩)))))))) nd)
  refine s_cons (t_asgN 2 (n_lst (l_nil ?_)) nd)
  refine s_cons (t_for (i_rng2 M.range (j_int (j_bin (j_ix (v_val (j_nm 1 rfl (j_int ⟨_, rfl, xd_tup rfl (j_int (bd_add ⟨_, _, rfl, rfl, ⟨by omega, by omega, by omega, by omega⟩, fun i ρ => ∃ rows d, rows.length = i ∧ (∀ i r, rows[i]? = some r → (∀ j, j ∈ r ↔ (i + 1, j) ∈ (og p).pairs) ∧ Asc leN r) ∧ ρ = [.val (encP p), .val (encO (og p)), .own none (.lst (rows.map rowD)), d, .un], ⟨[], _, rfl, fun i r h => by simp at h, rfl⟩, fun i d ρ hd ⟨rows, _, hl, hr', e⟩ => ?_, fun ρ ⟨rows, _, hl, hr', e⟩ => ?_⟩))⟩))))))))
  · subst e
    obtain ⟨hi, rfl⟩ := rget hd
    have hi : i < cnt p := by omega
    have hp : (1 : Int) + (i : Int) * 1 = ((i + 1 : Nat) : Int) := by omega
    rw [hp]
    refine g_nm 3 ?_ nd
    refine s_cons (t_append 2 rfl ⟨_, rfl⟩ (j_sortedSetN hu M.sorted M.set (j_comp [("pair", 4)] (og p).pairs ppD (fun x => decide (((x.1 : Nat) : Int) = ((i + 1 : Nat) : Int))) (fun x => nD x.2) (i_lst (j_ix (v_val (j_nm 1 rfl (j_int ⟨_, rfl, xd_tup rfl ⟨_, rfl, ⟨rfl, rfl⟩⟩⟩))))) (by omega) (fun x hx => turn_if _ fun _ _ _ _ _ => b_nm 4 ⟨fun _ _ _ _ _ => (jt_cmp (j_ix (v_val (j_nm 4 rfl (j_int ⟨_, rfl, xd_tup rfl (v_val (j_nm 3 rfl ⟨_, rfl, cd_eq ⟨rfl, rfl⟩⟩))⟩))))), fun _ _ _ _ _ _ => (j_ix (v_val (j_nm 4 rfl (j_int ⟨_, rfl, xd_tup rfl ⟨rfl, rfl⟩⟩)))), fun _ => rfl⟩ (by decide) nd) ⟨((og p).pairs.filter (fun x => decide (((x.1 : Nat) : Int) = ((i + 1 : Nat) : Int)))).map (·.2), by rw [List.map_map]; rfl, ?_, fun m asc hm => ⟨_, _, rfl, ?_, s_nil ⟨rows ++ [m], .val (nD (i + 1)), by simp [hl], fun j r hj => ?_, ?_⟩⟩⟩ nd (blk ["pattern", "told", "rows", "place", "pair"] (defScope (top 26)) (by decide +kernel)))))
    · rw [List.length_map]
      have := List.length_filter_le (fun x : Nat × Nat => decide (((x.1 : Nat) : Int) = ((i + 1 : Nat) : Int))) (og p).pairs
      omega
    · rw [List.length_map, hl]; omega
    · rw [List.getElem?_append] at hj
      split at hj
      · exact hr' j r hj
      · have : j = rows.length := by
          by_cases e : j - rows.length = 0
          · omega
          · rw [List.getElem?_eq_none (by simp; omega)] at hj; cases hj
        subst this
        simp at hj
        subst hj
        refine ⟨fun j => ?_, asc⟩
        rw [hm, hl]
        simp only [List.mem_map, List.mem_filter, decide_eq_true_eq]
        constructor
        · rintro ⟨⟨a, b⟩, ⟨hx, e1⟩, e2⟩
          have e1 : a = i + 1 := by simp at e1; omega
          have e2 : b = j := e2
          rw [← e1, ← e2]; exact hx
        · intro hx
          exact ⟨_, ⟨hx, rfl⟩, rfl⟩
    · rw [List.map_append]
      rfl
  · subst e
    refine s_freeze 2 rfl (s_cons (t_ret (j_nm 2 rfl ⟨_, rfl, q rows ⟨?_, hr'⟩⟩)))
    rw [hl, rng_len]
    have : (outl p 0).many = cnt p := hc
    omega
def sFits : FS := fun as R => ∃ r l, as = [.val (encR r), .val (.str l)] ∧ tagOk r.tag ∧ R (.bl (fits r l)) []
theorem d_fits_label (M : Names mg) (h : Has K mg "fits_label" (top 28) ["rule", "label"]) : DefOk P w K mg base "fits_label" 1 sFits := by
  refine def_D h ["rule", "label"] ⟨rfl, rfl, rfl, by decide +kernel, rfl, by decide +kernel, by decide +kernel⟩ (fun as R ⟨_, _, e, _⟩ => by subst e; rfl) fun f cdv A outer s H E as R hr hu nd ⟨r, l, e, ht, q⟩ => ?_
  subst e
  have hl := tag_len ht
  have hz := szl
  unfold fits at q
  refine s_cons (t_ifB _ (jt_cmp (j_nm 1 rfl (v_val (j_ix (v_val (j_nm 0 rfl (j_int ⟨_, rfl, xd_tup rfl ⟨_, rfl, cd_eqS ⟨rfl, rfl⟩⟩⟩))))))) (fun h => ?_) (fun h => ?_))
  · rw [if_pos (of_decide_eq_true h)] at q
    refine s_cons (t_ret (j_cmp (j_ix (v_val (j_nm 0 rfl (j_int ⟨_, rfl, xd_tup rfl (v_val (j_str ⟨_, rfl, cd_neS ⟨_, rfl, q⟩⟩))⟩))))))
  refine s_nil ?_
  rw [if_neg (of_decide_eq_false h)] at q
  refine s_cons (t_ret (jb_and (j_cmp (j_nm 1 rfl (v_val (j_bin (j_ix (v_val (j_nm 0 rfl (j_int ⟨_, rfl, xd_tup rfl (j_str (bd_addS ?_ ⟨_, rfl, cd_eqS ⟨rfl, rfl⟩⟩))⟩)))))))) (fun h => (j_cmp (j_ix (v_val (j_nm 0 rfl (j_int ⟨_, rfl, xd_tup rfl (v_val (j_str ⟨_, rfl, cd_neS ⟨rfl, rfl⟩⟩))⟩)))))) ⟨_, rfl, q⟩))
  rw [colon]
  show r.tag.length + 1 ≤ _
  omega
def sLabels : FS := fun as R => ∃ S, as = [.val (encS S)] ∧ WfS S ∧ ∀ L, Asc leS L → (∀ l, l ∈ L ↔ ∃ r ∈ S.rules, fits r l = true) → R (.lst (L.map .str)) []
theorem d_labels_of (M : Names mg) (D : DefOk P w K mg base "fits_label" 1 sFits) (h : Has K mg "labels_of" (top 29) ["schema"]) : DefOk P w K mg base "labels_of" 2 sLabels := by
  refine def_D h ["schema", "labels", "rule", "label"] ⟨rfl, rfl, rfl, by decide +kernel, rfl, by decide +kernel, by decide +kernel⟩ (fun as R ⟨_, e, _⟩ => by subst e; rfl) fun f cdv A outer s H E as R hr hu nd ⟨S, e, wf, q⟩ => ?_
  subst e
  have hz := szl
  have hf := wf.few
  refine s_cons (t_asgN 1 (n_lst (l_nil ?_)) nd)
  refine s_cons (t_for (i_tup (j_ix (v_val (j_nm 0 rfl (j_int ⟨_, rfl, xd_tup rfl ⟨_, rfl, fun i ρ => ∃ d1 d2, ρ = [.val (encS S), .own none (.lst ((lbls (S.rules.take i)).map .str)), d1, d2], ⟨_, _, rfl⟩, fun i d ρ hd ⟨_, _, e⟩ => ?_, fun ρ ⟨_, _, e⟩ => ?_⟩⟩))))))
  · subst e
    obtain ⟨r, hx, rfl⟩ := mget hd
    have hm := List.mem_of_getElem? hx
    have ht := wf.tags r hm
    have htl := tag_len ht
    have hn := lbls_len (S.rules.take i)
    rw [List.length_take] at hn
    refine g_nm 2 ?_ nd
    refine s_cons (t_for (i_lst (j_lst (l_cons (j_ix (v_val (j_nm 2 rfl (j_int ⟨_, rfl, xd_tup rfl (l_cons (j_bin (j_ix (v_val (j_nm 2 rfl (j_int ⟨_, rfl, xd_tup rfl (j_str (bd_addS ?_ (l_nil ⟨_, rfl, fun j ρ => ∃ d, ρ = [.val (encS S), .own none (.lst ((lbls (S.rules.take i) ++ (([r.tag, r.tag ++ ":"] : List Str).take j).filter (fits r)).map .str)), .val (encR r), d], ⟨_, by simp; rfl⟩, fun j d ρ hd ⟨_, e⟩ => ?_, fun ρ ⟨dd, e⟩ => ?_⟩)))⟩))))))⟩))))))))
    · rw [colon]
      show r.tag.length + 1 ≤ _
      omega
    · subst e
      obtain ⟨l, hl, rfl⟩ := mget (f := Dt.str) (l := [r.tag, r.tag ++ ":"]) hd
      have hn2 := List.length_filter_le (fits r) (([r.tag, r.tag ++ ":"] : List Str).take j)
      rw [List.length_take, show ([r.tag, r.tag ++ ":"] : List Str).length = 2 from rfl] at hn2
      refine g_nm 3 ?_ nd
      refine s_cons (t_ifJ (fun ρ => ρ = [.val (encS S), .own none (.lst ((lbls (S.rules.take i) ++ (([r.tag, r.tag ++ ":"] : List Str).take (j + 1)).filter (fits r)).map .str)), .val (encR r), .val (.str l)]) _ (jt_val (j_call D (hr.mono (by decide)) (a_cons (v_val (j_nm 2 rfl (a_cons (v_val (j_nm 3 rfl (a_nil ⟨_, rfl, nd0, ⟨_, _, rfl, ht, ⟨_, rfl, ⟨rfl, rfl⟩⟩⟩⟩))))))))) (fun h => ?_) (fun h => ?_) fun ρ e => ?_)
      · refine s_cons (t_append 1 rfl ⟨_, rfl⟩ (j_nm 3 rfl ⟨_, _, rfl, ?_, s_nil ?_⟩))
        · rw [List.length_map, List.length_append]; omega
        · rw [take_snoc hl, List.filter_append, ← List.append_assoc, List.map_append (l₂ := List.filter _ [l])]
          simp [h]
      · refine s_nil ?_
        rw [take_snoc hl, List.filter_append, ← List.append_assoc]
        simp [h]
      subst e
      exact s_nil ⟨_, rfl⟩
    · subst e
      refine s_nil ⟨.val (encR r), dd, ?_⟩
      rw [take_snoc hx, show lbls (S.rules.take i ++ [r]) = lbls (S.rules.take i) ++ ([r.tag, r.tag ++ ":"] : List Str).filter (fits r) by unfold lbls; rw [List.flatMap_append]; simp]
      rfl
  · subst e
    rw [List.length_map, List.take_length]
    have hn := lbls_len S.rules
    refine s_freeze 1 rfl (s_cons (t_ret (j_sortedSetS hu M.sorted M.set (j_nm 1 rfl ⟨_, rfl, by omega, fun L asc hL => ⟨_, rfl, q L asc fun l => (hL l).trans mem_lbls⟩⟩))))
end
end DL

set_option Elab.async false
set_option linter.all false
set_option maxRecDepth 100000
set_option autoImplicit false
set_option maxHeartbeats 4000000
/-! E9: tables by name, spots, sets of spots. -/
namespace DL
open PySem PySem.Spec L2
/-! ### dicts of marks -/
section
variable {α κ : Type} [DecidableEq α] [DecidableEq κ]
def addL (acc : List α) (p : α) : List α := if p ∈ acc then acc else acc ++ [p]
def marks (f : α → κ) (acc : List α) : List (κ × Dt) := acc.map fun p => (f p, .bl true)
theorem mem_addL {acc : List α} {p x : α} : x ∈ addL acc p ↔ x ∈ acc ∨ x = p := by
  unfold addL
  split
  · rename_i h
    exact ⟨.inl, fun q => q.elim id fun e => e ▸ h⟩
  · simp
theorem nodup_addL {acc : List α} {p : α} (h : acc.Nodup) : (addL acc p).Nodup := by
  unfold addL
  split
  · exact h
  · rename_i n
    rw [List.nodup_append]
    exact ⟨h, by simp, fun a ha b hb e => n (by simp at hb; rw [← hb, ← e]; exact ha)⟩
theorem addL_len {acc : List α} {p : α} : (addL acc p).length ≤ acc.length + 1 := by
  unfold addL
  split <;> simp
theorem marks_some {f : α → κ} (hf : ∀ a b, f a = f b → a = b) (acc : List α) (p : α) : (valD (marks f acc) (f p)).isSome = decide (p ∈ acc) := by
  rw [← valD_any]
  unfold marks
  rw [List.any_map]
  by_cases h : p ∈ acc
  · rw [decide_eq_true h, List.any_eq_true]
    exact ⟨p, h, by simp⟩
  · rw [decide_eq_false h, List.any_eq_false]
    intro x hx
    simp only [Function.comp, decide_eq_true_eq]
    exact fun e => h (hf _ _ e ▸ hx)
theorem marks_put {f : α → κ} (hf : ∀ a b, f a = f b → a = b) (acc : List α) (p : α) : putD (marks f acc) (f p) (.bl true) = marks f (addL acc p) := by
  unfold putD addL
  have := marks_some hf acc p
  rw [← valD_any] at this
  by_cases h : p ∈ acc
  · rw [if_pos (by rw [this]; simpa using h), if_pos h]
    unfold marks
    rw [List.map_map]
    apply List.map_congr_left
    intro x _
    simp only [Function.comp]
    split <;> rfl
  · rw [if_neg (by rw [this]; simpa using h), if_neg h]
    unfold marks
    rw [List.map_append]
    rfl
end
/-! ### automata of patterns -/
def Aft (p : Pat) (k j : Nat) : Prop := if k = 0 then j ∈ (og p).firsts else (k, j) ∈ (og p).pairs
def EndP (p : Pat) (k : Nat) : Prop := if k = 0 then (og p).none = true else k ∈ (og p).lasts
def nmOf (p : Pat) (j : Nat) : Str := (namesAt p).getD (j - 1) ""
theorem Aft.bd {p : Pat} {k j : Nat} (h : Aft p k j) : 0 < j ∧ j ≤ cnt p := by
  unfold Aft at h
  split at h
  · exact (og_in p).fs j h
  · exact ((og_in p).ps _ h).2
theorem nm_at {p : Pat} {j : Nat} (h : 0 < j ∧ j ≤ cnt p) : (namesAt p)[j - 1]? = some (nmOf p j) := by
  unfold nmOf
  have : j - 1 < (namesAt p).length := by have := h.2; unfold cnt at this; omega
  rw [List.getD_eq_getElem?_getD, List.getElem?_eq_getElem this]
  rfl
/-- the places behind each place, the start as the 0th -/
structure Rows0 (p : Pat) (rows : List (List Nat)) : Prop where
  len : rows.length = cnt p + 1
  at' : ∀ k r, rows[k]? = some r → (∀ j, j ∈ r ↔ Aft p k j) ∧ r.length ≤ 3
theorem rows0_of {p : Pat} (wf : WfP p) {rows : List (List Nat)} (h : NextRows p rows) : Rows0 p ((og p).firsts.mergeSort leN :: rows) := by
  refine ⟨by rw [List.length_cons, h.len], fun k r hk => ?_⟩
  cases k with
  | zero =>
    have : (og p).firsts.mergeSort leN = r := by simpa using hk
    subst this
    refine ⟨fun j => by rw [mem_sort]; unfold Aft; simp, ?_⟩
    rw [List.length_mergeSort]
    exact Nat.le_trans (outl_le p wf.cnt 0).fs wf.cnt
  | succ k =>
    have hk : rows[k]? = some r := by simpa using hk
    refine ⟨fun j => ?_, Nat.le_trans (h.few (List.mem_of_getElem? hk)) wf.cnt⟩
    rw [(h.at' k r hk).1]
    unfold Aft
    rw [if_neg (by omega)]
def tabD (p : Pat) (rows : List (List Nat)) (es : List Nat) : Dt := .tup [.lst ((namesAt p).map .str), .lst (rows.map rowD), .dK (marks kN es)]
structure Tab (p : Pat) (rows : List (List Nat)) (es : List Nat) : Prop where
  rows : Rows0 p rows
  ends : ∀ k, k ∈ es ↔ EndP p k
structure Tables (S : Schema) (T : List (Key × Dt)) : Prop where
  yes : ∀ r ∈ S.rules, (og r.pat).void = false → ∃ rows es, valD T (kS r.name) = some (tabD r.pat rows es) ∧ Tab r.pat rows es
  no : ∀ r ∈ S.rules, (og r.pat).void = true → valD T (kS r.name) = none
theorem valD_put {κ : Type} [DecidableEq κ] (l : List (κ × Dt)) (k k' : κ) (d : Dt) : valD (putD l k d) k' = if k' = k then some d else valD l k' := by
  unfold putD
  by_cases h : (l.any fun kv => decide (kv.1 = k)) = true
  · rw [if_pos h]
    induction l with
    | nil => simp at h
    | cons x l ih =>
      unfold valD at *
      rw [List.map_cons, List.find?_cons]
      by_cases e : x.1 = k
      · rw [if_pos e]
        by_cases e2 : k' = k
        · simp [e, e2]
        · have e3 : ¬ x.1 = k' := fun z => e2 (z.symm.trans e)
          rw [if_neg e2]
          rw [List.find?_cons]
          simp only [e3, decide_false]
          by_cases h2 : (l.any fun kv => decide (kv.1 = k)) = true
          · have := ih h2
            rw [if_neg e2] at this
            exact this
          · have : l.map (fun kv => if kv.1 = k then (kv.1, d) else kv) = l := by
              conv => rhs; rw [← List.map_id l]
              apply List.map_congr_left
              intro y hy
              rw [if_neg fun z => h2 (List.any_eq_true.mpr ⟨y, hy, by simp [z]⟩)]
              rfl
            rw [this]
      · rw [if_neg e]
        have h2 : (l.any fun kv => decide (kv.1 = k)) = true := by simpa [e] using h
        by_cases e3 : x.1 = k'
        · have : k' ≠ k := fun z => e (e3.trans z)
          simp [e3, this]
        · simp only [e3, decide_false]
          have q := ih h2
          rw [q]
          by_cases e4 : k' = k
          · rw [if_pos e4, if_pos e4]
          · rw [if_neg e4, if_neg e4, List.find?_cons]
            simp only [e3, decide_false]
  · rw [if_neg h]
    unfold valD
    rw [List.find?_append]
    by_cases e : k' = k
    · subst e
      rw [List.find?_eq_none.mpr fun x hx => by
        simp only [decide_eq_true_eq]
        exact fun z => h (List.any_eq_true.mpr ⟨x, hx, by simp [z]⟩)]
      simp
    · rw [if_neg e]
      have : ¬ k = k' := fun z => e z.symm
      cases l.find? fun kv => decide (kv.1 = k') <;> simp [this]
theorem putD_len {κ : Type} [DecidableEq κ] (l : List (κ × Dt)) (k : κ) (d : Dt) : (putD l k d).length ≤ l.length + 1 := by
  unfold putD
  split <;> simp
section
variable {P : Program} {w : World} {K : PySem.W.Frag} {mg : Str → Option Value} {base : Heap}
def sTables : FS := fun as R => ∃ S, as = [.val (encS S)] ∧ WfS S ∧ ∀ T, Tables S T → R (.dK T) []
/-- what holds of the first i rules -/
structure TablesUp (S : Schema) (i : Nat) (T : List (Key × Dt)) : Prop where
  yes : ∀ j r, j < i → S.rules[j]? = some r → (og r.pat).void = false → ∃ rows es, valD T (kS r.name) = some (tabD r.pat rows es) ∧ Tab r.pat rows es
  no : ∀ j r, S.rules[j]? = some r → (i ≤ j ∨ (og r.pat).void = true) → valD T (kS r.name) = none
  len : T.length ≤ i
theorem nodup_at {α : Type} {l : List α} (nd : l.Nodup) {i j : Nat} {x : α} (h1 : l[i]? = some x) (h2 : l[j]? = some x) : i = j := by
  have key : ∀ {i j : Nat}, i < j → l[i]? = some x → l[j]? = some x → False := fun {i j} hij a b => by
    have hj : j < l.length := by
      by_cases q : j < l.length
      · exact q
      · rw [List.getElem?_eq_none (by omega)] at b; cases b
    rw [List.getElem?_eq_getElem (by omega)] at a
    rw [List.getElem?_eq_getElem hj] at b
    exact (List.pairwise_iff_getElem.mp nd) i j (by omega) hj hij ((Option.some.inj a).trans (Option.some.inj b).symm)
  rcases Nat.lt_trichotomy i j with h | h | h
  · exact (key h h1 h2).elim
  · exact h
  · exact (key h h2 h1).elim
theorem names_inj {S : Schema} (wf : WfS S) {i j : Nat} {r r' : Rule} (h1 : S.rules[i]? = some r) (h2 : S.rules[j]? = some r') (e : r.name = r'.name) : i = j :=
  nodup_at wf.names (x := r.name) (by rw [List.getElem?_map, h1]; rfl) (by rw [List.getElem?_map, h2, e]; rfl)
theorem names_inj' {S : Schema} (wf : WfS S) {r r' : Rule} (h1 : r ∈ S.rules) (h2 : r' ∈ S.rules) (e : r.name = r'.name) : r = r' := by
  obtain ⟨i, hi⟩ := List.getElem?_of_mem h1
  obtain ⟨j, hj⟩ := List.getElem?_of_mem h2
  have := names_inj wf hi hj e
  subst this
  rw [hi] at hj
  exact Option.some.inj hj
theorem d_places_by_name (M : Names mg) (D1 : DefOk P w K mg base "is_void" 62 sVoid) (D2 : DefOk P w K mg base "last_places" 62 sLast) (D3 : DefOk P w K mg base "takes_none" 62 sNone) (D4 : DefOk P w K mg base "names_at" (30 + 1) (sNamesAt 30)) (D5 : DefOk P w K mg base "first_places" 62 sFirst) (D6 : DefOk P w K mg base "next_places" 62 sNext) (h : Has K mg "places_by_name" (top 32) ["schema"]) : DefOk P w K mg base "places_by_name" 63 sTables := by
  refine def_D h ["schema", "tables", "rule", "pattern", "ends", "place"] ⟨rfl, rfl, rfl, by decide +kernel, rfl, by decide +kernel, by decide +kernel⟩ (fun as R ⟨_, e, _⟩ => by subst e; rfl) fun f cdv A outer s H E as R hr hu nd ⟨S, e, wf, q⟩ => ?_
  subst e
  have hz := szl
  have hf := wf.few
  refine s_cons (t_asgN 1 (n_dK ?_) nd)
  refine s_cons (t_for (i_tup (j_ix (v_val (j_nm 0 rfl (j_int ⟨_, rfl, xd_tup rfl ⟨_, rfl, fun i ρ => ∃ T d2 d3 d4 d5, TablesUp S i T ∧ ρ = [.val (encS S), .own none (.dK T), d2, d3, d4, d5], ⟨[], _, _, _, _, ⟨fun j r h => by omega, fun j r _ _ => rfl, Nat.le_refl _⟩, rfl⟩, fun i d ρ hd ⟨T, d2, d3, d4, d5, hT, e⟩ => ?_, fun ρ ⟨T, d2, d3, d4, d5, hT, e⟩ => ?_⟩⟩))))))
  · subst e
    obtain ⟨r, hx, rfl⟩ := mget hd
    have hm := List.mem_of_getElem? hx
    have wp := wf.pats r hm
    have hi : i < S.rules.length := by
      by_cases q : i < S.rules.length
      · exact q
      · rw [List.getElem?_eq_none (by omega)] at hx; cases hx
    have hlen := hT.len
    refine g_nm 2 ?_ nd
    refine s_cons (t_asg 3 (j_ix (v_val (j_nm 2 rfl (j_int ⟨_, rfl, xd_tup rfl ?_⟩)))) nd)
    refine s_cons (t_ifJ (fun ρ => ∃ T d2 d3 d4 d5, TablesUp S (i + 1) T ∧ ρ = [.val (encS S), .own none (.dK T), d2, d3, d4, d5]) _ (jt_not (jt_val (j_call D1 hr (a_cons (v_val (j_nm 3 rfl (a_nil ⟨_, rfl, nd0, ⟨_, rfl, wp, ⟨_, rfl, ⟨rfl, rfl⟩⟩⟩⟩))))))) (fun h => ?_) (fun h => ?_) fun ρ ⟨T, _, _, _, _, hT, e⟩ => ?_)
    · have hv : (og r.pat).void = false := by simpa using h
      refine s_cons (t_asgN 4 (n_dK ?_) nd)
      refine s_cons (t_for (i_lst (j_call D2 hr (a_cons (v_val (j_nm 3 rfl (a_nil ⟨_, rfl, nd0, ⟨_, rfl, wp, ⟨_, rfl, fun i ρ => ∃ es d5, es.length ≤ i ∧ (∀ k, k ∈ es ↔ k ∈ ((og r.pat).lasts.mergeSort leN).take i) ∧ ρ = [.val (encS S), .own none (.dK T), .val (encR r), .val (encP r.pat), .own none (.dK (marks kN es)), d5], ⟨[], _, Nat.le_refl _, fun k => by simp, rfl⟩, fun i d ρ hd ⟨es, _, he1, he, e⟩ => ?_, fun ρ ⟨es, _, he1, he, e⟩ => ?_⟩⟩⟩)))))))
      · subst e
        obtain ⟨k, hk, rfl⟩ := mget hd
        refine g_nm 5 ?_ nd
        have hl3 := (outl_le r.pat wp.cnt 0).ls
        have hc3 := wp.cnt
        have hi2 : i < ((og r.pat).lasts.mergeSort leN).length := by
          by_cases q : i < ((og r.pat).lasts.mergeSort leN).length
          · exact q
          · rw [List.getElem?_eq_none (by omega)] at hk; cases hk
        rw [List.length_mergeSort] at hi2
        have hl3 : (og r.pat).lasts.length ≤ cnt r.pat := hl3
        refine s_cons (t_sub 4 (j_bl ⟨_, _, rfl, (j_nm 5 rfl ⟨_, _, rfl, wd_dKi hu ?_ ?_⟩)⟩))
        · unfold marks; rw [List.length_map]; omega
        rw [show (Sum.inl (k : Int) : Key) = kN k from rfl, marks_put (fun _ _ => kN_inj)]
        refine s_nil ⟨addL es k, _, Nat.le_trans addL_len (by omega), fun x => ?_, rfl⟩
        rw [mem_addL, he, take_snoc hk, List.mem_append, List.mem_singleton]
      · subst e
        rw [List.length_map, List.take_length] at he
        have hl3 : (og r.pat).lasts.length ≤ cnt r.pat := (outl_le r.pat wp.cnt 0).ls
        have hc3 := wp.cnt
        rw [List.length_map, List.length_mergeSort] at he1
        refine s_cons (t_ifJ (fun ρ => ∃ es d5, (∀ k, k ∈ es ↔ EndP r.pat k) ∧ ρ = [.val (encS S), .own none (.dK T), .val (encR r), .val (encP r.pat), .own none (.dK (marks kN es)), d5]) _ (jt_val (j_call D3 hr (a_cons (v_val (j_nm 3 rfl (a_nil ⟨_, rfl, nd0, ⟨_, rfl, wp, ⟨_, rfl, ⟨rfl, rfl⟩⟩⟩⟩)))))) (fun h => ?_) (fun h => ?_) fun ρ ⟨es, _, he, e⟩ => ?_)
        · refine s_cons (t_sub 4 (j_bl ⟨_, _, rfl, (j_int ⟨_, _, rfl, wd_dKi hu ?_ ?_⟩)⟩))
          · unfold marks; rw [List.length_map]; omega
          rw [show (Sum.inl (0 : Int) : Key) = kN 0 from rfl, marks_put (fun _ _ => kN_inj)]
          refine s_nil ⟨addL es 0, _, fun x => ?_, rfl⟩
          rw [mem_addL, he, mem_sort]
          unfold EndP
          split
          · rename_i e; simp [e, h]
          · rename_i e; simp [e]
        · refine s_nil ⟨es, _, fun x => ?_, rfl⟩
          rw [he, mem_sort]
          unfold EndP
          split
          · rename_i e
            subst e
            rw [h]
            simp only [Bool.false_eq_true, iff_false]
            intro hx
            have := (og_in r.pat).ls 0 hx
            omega
          · exact Iff.rfl
        subst e
        refine s_freeze 4 rfl ?_
        refine s_cons (t_sub 1 (j_tup (l_cons (j_call D4 (hr.mono (by decide)) (a_cons (v_val (j_nm 3 rfl (a_nil ⟨_, rfl, nd0, ⟨_, rfl, wp.depth, by omega, (l_cons (j_bin (j_lst (l_cons (j_call D5 hr (a_cons (v_val (j_nm 3 rfl (a_nil ⟨_, rfl, nd0, ⟨_, rfl, wp, (l_nil (j_call D6 hr (a_cons (v_val (j_nm 3 rfl (a_nil ⟨_, rfl, nd0, ⟨_, rfl, wp, fun rows hrows => (bd_addL ?_ (l_cons (j_nm 4 rfl (l_nil ⟨_, _, rfl, (j_ix (v_val (j_nm 2 rfl (j_int ⟨_, rfl, xd_tup rfl ⟨_, _, rfl, wd_dKs hu ?_ ?_⟩⟩))))⟩))))⟩⟩))))))⟩⟩)))))))))⟩⟩))))))))
        · rw [List.length_map, hrows.len]
          show 1 + cnt r.pat ≤ _
          omega
        · omega
        refine s_nil ⟨_, .val (encR r), .val (encP r.pat), .val (.dK (marks kN es)), _, ?_, rfl⟩
        rw [show (Sum.inr r.name : Key) = kS r.name from rfl]
        refine ⟨fun j r' hj hr' hv' => ?_, fun j r' hr' hv' => ?_, Nat.le_trans (putD_len _ _ _) (by omega)⟩
        · rw [valD_put]
          by_cases e : r'.name = r.name
          · have e2 := names_inj wf hr' hx e
            subst e2
            rw [hr'] at hx
            cases hx
            rw [if_pos rfl]
            exact ⟨_, es, rfl, rows0_of wp hrows, he⟩
          · rw [if_neg fun z => e (kS_inj z)]
            have : j ≠ i := fun z => by
              subst z
              rw [hr'] at hx
              cases hx
              exact e rfl
            exact hT.yes j r' (by omega) hr' hv'
        · rw [valD_put]
          by_cases e : r'.name = r.name
          · have e2 := names_inj wf hr' hx e
            subst e2
            rw [hr'] at hx
            cases hx
            rcases hv' with h | h
            · omega
            · rw [hv] at h; cases h
          · rw [if_neg fun z => e (kS_inj z)]
            exact hT.no j r' hr' (hv'.imp (by omega) id)
    · have hv : (og r.pat).void = true := by simpa using h
      refine s_nil ⟨T, _, _, _, _, ⟨fun j r' hj hr' hv' => ?_, fun j r' hr' hv' => ?_, by omega⟩, rfl⟩
      · have : j ≠ i := fun z => by
          subst z
          rw [hr'] at hx
          cases hx
          rw [hv] at hv'; cases hv'
        exact hT.yes j r' (by omega) hr' hv'
      · exact hT.no j r' hr' (hv'.imp (by omega) id)
    subst e
    exact s_nil ⟨T, _, _, _, _, hT, rfl⟩
  · subst e
    refine s_freeze 1 rfl (s_cons (t_ret (j_nm 1 rfl ⟨_, rfl, q T ⟨fun r hm hv => ?_, fun r hm hv => ?_⟩⟩)))
    · obtain ⟨j, hj⟩ := List.getElem?_of_mem hm
      refine hT.yes j r ?_ hj hv
      rw [List.length_map]
      by_cases q : j < S.rules.length
      · exact q
      · rw [List.getElem?_eq_none (by omega)] at hj; cases hj
    · obtain ⟨j, hj⟩ := List.getElem?_of_mem hm
      exact hT.no j r hj (.inr hv)
end
end DL

set_option Elab.async false
set_option linter.all false
set_option maxRecDepth 100000
set_option autoImplicit false
set_option maxHeartbeats 4000000
/-! E10: spots and their sets. -/
namespace DL
open PySem PySem.Spec L2
abbrev Spot := Str × Nat
def spotsD (l : List Spot) : Dt := .tup (l.map pD)
def nkP (p : Spot) : NestedKey := .tup [.text p.1, .num p.2]
def spK (l : List Spot) : NestedKey := .tup (l.map nkP)
theorem nkDs_eq : ∀ ks : List NestedKey, nkDs ks = ks.map nkD
  | [] => by simp [nkDs]
  | k :: ks => by simp [nkDs, nkDs_eq ks]
theorem nkP_d (p : Spot) : nkD (nkP p) = pD p := by simp [nkP, nkD, nkDs, pD]
theorem spK_d (l : List Spot) : nkD (spK l) = spotsD l := by
  unfold spK spotsD
  rw [nkD, nkDs_eq, List.map_map]
  exact congrArg Dt.tup (List.map_congr_left fun p _ => nkP_d p)
theorem nkP_inj {a b : Spot} (h : nkP a = nkP b) : a = b := by
  unfold nkP at h
  injection h with h
  injection h with h1 h2
  injection h2 with h2 h3
  injection h1 with h1
  injection h2 with h2
  exact Prod.ext h1 (by omega)
theorem spK_inj {a b : List Spot} (h : spK a = spK b) : a = b := by
  unfold spK at h
  injection h with h
  induction a generalizing b with
  | nil =>
    cases b with
    | nil => rfl
    | cons _ _ => cases h
  | cons x a ih =>
    cases b with
    | nil => cases h
    | cons y b =>
      injection h with h1 h2
      rw [nkP_inj h1, ih h2]
theorem nkP_depth (p : Spot) : (nkP p).depth ≤ 4 := by simp [nkP, NestedKey.depth, NestedKey.depthAll]
theorem valD_at {κ : Type} [DecidableEq κ] {l : List (κ × Dt)} {i : Nat} {k : κ} {d : Dt} (nd : (l.map (·.1)).Nodup) (h : l[i]? = some (k, d)) : valD l k = some d := by
  induction l generalizing i with
  | nil => simp at h
  | cons x l ih =>
    unfold valD
    rw [List.find?_cons]
    cases i with
    | zero =>
      have : x = (k, d) := by simpa using h
      subst this
      simp
    | succ i =>
      have h : l[i]? = some (k, d) := by simpa using h
      have nd' := List.nodup_cons.mp (show (x.1 :: l.map (·.1)).Nodup from nd)
      have ne : ¬ x.1 = k := fun e => nd'.1 (e ▸ List.mem_map.mpr ⟨_, List.mem_of_getElem? h, rfl⟩)
      simp only [ne, decide_false]
      exact ih nd'.2 h
/-- the numbers of the sets -/
def nums (sets : List (List Spot)) : List (NestedKey × Dt) := sets.zipIdx.map fun x => (spK x.1, nD x.2)
theorem nums_keys (sets : List (List Spot)) : (nums sets).map (·.1) = sets.map spK := by
  unfold nums
  rw [List.map_map]
  have : (sets.zipIdx.map ((fun x : NestedKey × Dt => x.1) ∘ fun x : List Spot × Nat => (spK x.1, nD x.2))) = (sets.zipIdx.map Prod.fst).map spK := by
    rw [List.map_map]; rfl
  rw [this, List.zipIdx_map_fst]
theorem nums_snoc (sets : List (List Spot)) (s : List Spot) : nums (sets ++ [s]) = nums sets ++ [(spK s, nD sets.length)] := by
  unfold nums
  rw [List.zipIdx_append, List.map_append]
  simp
theorem nums_len (sets : List (List Spot)) : (nums sets).length = sets.length := by unfold nums; simp
theorem nums_at {sets : List (List Spot)} {i : Nat} {s : List Spot} (nd : sets.Nodup) (h : sets[i]? = some s) : valD (nums sets) (spK s) = some (nD i) := by
  refine valD_at (i := i) (by rw [nums_keys]; exact nodup_map (fun _ _ => spK_inj) nd) ?_
  unfold nums
  rw [List.getElem?_map, List.getElem?_zipIdx, h]
  simp
theorem nums_none {sets : List (List Spot)} {s : List Spot} (h : s ∉ sets) : valD (nums sets) (spK s) = none := by
  refine valD_none ?_
  rw [nums_keys]
  intro hm
  obtain ⟨x, hx, e⟩ := List.mem_map.mp hm
  exact h (spK_inj e ▸ hx)
def Beh (S : Schema) (spots : List Spot) (ns : List Str) (p : Spot) : Prop := ∃ k, (p.1, k) ∈ spots ∧ ∃ r ∈ S.rules, r.name = p.1 ∧ Aft r.pat k p.2 ∧ nmOf r.pat p.2 ∈ ns
def Nmd (S : Schema) (spots : List Spot) (x : Str) : Prop := ∃ k, (x, k) ∈ spots ∧ ∃ r ∈ S.rules, r.name = x ∧ EndP r.pat k
def Sta (S : Schema) (l : Str) (p : Spot) : Prop := p.2 = 0 ∧ ∃ r ∈ S.rules, r.name = p.1 ∧ (og r.pat).void = false ∧ fits r l = true
/-- spots of the schema's rules -/
structure SpOk (S : Schema) (spots : List Spot) : Prop where
  few : spots.length ≤ 100
  at' : ∀ p ∈ spots, ∃ r ∈ S.rules, r.name = p.1 ∧ (og r.pat).void = false ∧ p.2 ≤ cnt r.pat
section
variable {P : Program} {w : World} {K : PySem.W.Frag} {mg : Str → Option Value} {base : Heap}
def sSpotsOf : FS := fun as R => ∃ S T l, as = [.val (encS S), .val (.dK T), .val (.str l)] ∧ WfS S ∧ Tables S T ∧ ∀ L : List Spot, Asc leP L → (∀ p, p ∈ L ↔ Sta S l p) → R (spotsD L) []
theorem d_spots_of_label (M : Names mg) (D : DefOk P w K mg base "fits_label" 1 sFits) (h : Has K mg "spots_of_label" (top 33) ["schema", "tables", "label"]) : DefOk P w K mg base "spots_of_label" 2 sSpotsOf := by
  refine def_D h ["schema", "tables", "label", "rule"] ⟨rfl, rfl, rfl, by decide +kernel, rfl, by decide +kernel, by decide +kernel⟩ (fun as R ⟨_, _, _, e, _⟩ => by subst e; rfl) fun f cdv A outer s H E as R hr hu nd ⟨S, T, l, e, wf, hT, q⟩ => ?_
  subst e
  have hz := szl
  have hf := wf.few
  have hfl : ((S.rules.filter fun r => (valD T (kS r.name)).isSome && fits r l).map fun r => (r.name, 0)).length ≤ S.rules.length := by rw [List.length_map]; exact List.length_filter_le _ _
  refine s_cons (t_ret (j_ty "tuple" M.tuple (by decide +kernel) (a_cons (v_val (j_blt "sorted" M.sorted (by decide +kernel) (a_cons (v_val (j_comp [("rule", 3)] S.rules encR (fun r => (valD T (kS r.name)).isSome && fits r l) (fun r => pD (r.name, 0)) (i_tup (j_ix (v_val (j_nm 0 rfl (j_int ⟨_, rfl, xd_tup rfl ⟨_, rfl, ⟨rfl, rfl⟩⟩⟩))))) (by omega) (fun r hr' => turn_if _ fun _ _ _ _ _ => b_nm 3 ⟨fun _ _ _ _ _ => (jtb_bool (jwb_and (jt_cmp (j_ix (v_val (j_nm 3 rfl (j_int ⟨_, rfl, xd_tup rfl (v_val (j_nm 1 rfl ⟨_, rfl, cd_inKs (by exact hu) ⟨rfl, rfl⟩⟩))⟩))))) fun h => (jwb_and1 (jt_val (j_call D (hr.mono (by decide)) (a_cons (v_val (j_nm 3 rfl (a_cons (v_val (j_nm 2 rfl (a_nil ⟨_, rfl, nd0, ⟨_, _, rfl, wf.tags r hr', ⟨_, rfl, ⟨rfl, rfl⟩⟩⟩⟩))))))))))) ⟨rfl, rfl⟩), fun _ _ _ _ _ _ => (j_tup (l_cons (j_ix (v_val (j_nm 3 rfl (j_int ⟨_, rfl, xd_tup rfl (l_cons (j_int (l_nil ⟨rfl, rfl⟩)))⟩)))))), fun _ => rfl⟩ (by decide) nd) (a_nil ⟨_, rfl, kd_sort hu ?_ (a_nil ⟨_, rfl, kd_tupL ⟨_, rfl, ?_⟩⟩)⟩) nd (blk ["schema", "tables", "label", "rule"] (defScope (top 33)) (by decide +kernel)))))))))) 
  · rw [show (fun r : Rule => pD (r.name, 0)) = pD ∘ fun r => (r.name, 0) from rfl, ← List.map_map]
    exact canP (by omega)
  · rw [show (fun r : Rule => pD (r.name, 0)) = pD ∘ fun r => (r.name, 0) from rfl, ← List.map_map, sortP]
    refine q _ (asc_sort ordP ?_) fun p => ?_
    · have nd := wf.names
      have : ((S.rules.filter fun r => (valD T (kS r.name)).isSome && fits r l).map Rule.name).Nodup := (List.Sublist.map _ List.filter_sublist).nodup nd
      have e : ((S.rules.filter fun r => (valD T (kS r.name)).isSome && fits r l).map fun r => (r.name, 0)) = ((S.rules.filter fun r => (valD T (kS r.name)).isSome && fits r l).map Rule.name).map fun x => (x, 0) := by rw [List.map_map]; rfl
      rw [e]
      exact nodup_map (fun a b h => (Prod.mk.inj h).1) this
    · rw [mem_sort, List.mem_map]
      constructor
      · rintro ⟨r, hr, rfl⟩
        obtain ⟨h1, h2⟩ := List.mem_filter.mp hr
        rw [Bool.and_eq_true] at h2
        refine ⟨rfl, r, h1, rfl, ?_, h2.2⟩
        cases hv : (og r.pat).void with
        | false => rfl
        | true => rw [hT.no r h1 hv] at h2; simp at h2
      · rintro ⟨h0, r, hr, e, hv, hf⟩
        obtain ⟨_, _, ev, _⟩ := hT.yes r hr hv
        refine ⟨r, List.mem_filter.mpr ⟨hr, by rw [ev, hf]; rfl⟩, Prod.ext e h0.symm⟩
def sBehind : FS := fun as R => ∃ S T spots ns, as = [.val (.dK T), .val (spotsD spots), .val (.dK (marks kS ns))] ∧ WfS S ∧ Tables S T ∧ SpOk S spots ∧ ∀ L : List Spot, Asc leP L → (∀ p, p ∈ L ↔ Beh S spots ns p) → R (spotsD L) []
theorem d_spots_behind (M : Names mg) (h : Has K mg "spots_behind" (top 34) ["tables", "spots", "names"]) : DefOk P w K mg base "spots_behind" 1 sBehind := by
  refine def_D h ["tables", "spots", "names", "found", "name", "place", "table", "after"] ⟨rfl, rfl, rfl, by decide +kernel, rfl, by decide +kernel, by decide +kernel⟩ (fun as R ⟨_, _, _, _, e, _⟩ => by subst e; rfl) fun f cdv A outer s H E as R hr hu nd ⟨S, T, spots, ns, e, wf, hT, ok, q⟩ => ?_
  subst e
  have hz := szl
  have hfew := ok.few
  refine s_cons (t_asgN 3 (n_dN ?_) nd)
  refine s_cons (t_for (i_tup (j_nm 1 rfl ⟨_, rfl, fun i ρ => ∃ (acc : List Spot) (d4 d5 d6 d7 : Slot), acc.Nodup ∧ acc.length ≤ 3 * i ∧ (∀ p, p ∈ acc ↔ Beh S (spots.take i) ns p) ∧ ρ = [.val (.dK T), .val (spotsD spots), .val (.dK (marks kS ns)), .own none (.dN (marks nkP acc)), d4, d5, d6, d7], ⟨[], _, _, _, _, List.nodup_nil, Nat.le_refl _, fun p => ?_, rfl⟩, fun i d ρ hd ⟨acc, _, _, _, _, hn, hl, ha, e⟩ => ?_, fun ρ ⟨acc, _, _, _, _, hn, hl, ha, e⟩ => ?_⟩)))
  · simp [Beh]
  · subst e
    obtain ⟨sp, hx, rfl⟩ := mget hd
    have hm := List.mem_of_getElem? hx
    have hi : i < spots.length := by
      by_cases q : i < spots.length
      · exact q
      · rw [List.getElem?_eq_none (by omega)] at hx; cases hx
    obtain ⟨r, hr', ename, hv, hk⟩ := ok.at' sp hm
    obtain ⟨rows, es, ev, tab⟩ := hT.yes r hr' hv
    rw [ename] at ev
    have hrow : sp.2 < rows.length := by rw [tab.rows.len]; omega
    obtain ⟨hrow1, hrow2⟩ := tab.rows.at' sp.2 rows[sp.2] (List.getElem?_eq_getElem hrow)
    refine g_tup (gs_cons (g_nm 4 (gs_cons (g_nm 5 (gs_nil ?_) nd)) nd)) rfl
    refine s_cons (t_asg 6 (j_ix (v_val (j_nm 0 rfl (j_nm 4 rfl ⟨_, rfl, xd_dKs hu ev ?_⟩)))) nd)
    refine s_cons (t_for (i_lst (j_ix (v_val (j_ix (v_val (j_nm 6 rfl (j_int ⟨_, rfl, xd_tup rfl (j_nm 5 rfl ⟨_, rfl, xd_lst (atI_map (List.getElem?_eq_getElem hrow)) ⟨_, rfl, fun j ρ => ∃ (acc2 : List Spot) (d7 : Slot), acc2.Nodup ∧ acc2.length ≤ acc.length + j ∧ (∀ p, p ∈ acc2 ↔ p ∈ acc ∨ (p.1 = sp.1 ∧ p.2 ∈ (rows[sp.2]).take j ∧ nmOf r.pat p.2 ∈ ns)) ∧ ρ = [.val (.dK T), .val (spotsD spots), .val (.dK (marks kS ns)), .own none (.dN (marks nkP acc2)), .val (.str sp.1), .val (.int sp.2), .val (tabD r.pat rows es), d7], ⟨acc, _, hn, Nat.le_refl _, fun p => by simp, rfl⟩, fun j d ρ hd ⟨acc2, _, hn2, hl2, ha2, e⟩ => ?_, fun ρ ⟨acc2, _, hn2, hl2, ha2, e⟩ => ?_⟩⟩)⟩))))))))
    · subst e
      obtain ⟨k, hk2, rfl⟩ := mget hd
      have haft := (hrow1 k).mp (List.mem_of_getElem? hk2)
      have hb := haft.bd
      have hnm := nm_at hb
      have hj : j < (rows[sp.2]).length := by
        by_cases q : j < (rows[sp.2]).length
        · exact q
        · rw [List.getElem?_eq_none (by omega)] at hk2; cases hk2
      refine g_nm 7 ?_ nd
      refine s_cons (t_ifJ (fun ρ => ∃ (acc2 : List Spot) (d7 : Slot), acc2.Nodup ∧ acc2.length ≤ acc.length + (j + 1) ∧ (∀ p, p ∈ acc2 ↔ p ∈ acc ∨ (p.1 = sp.1 ∧ p.2 ∈ (rows[sp.2]).take (j + 1) ∧ nmOf r.pat p.2 ∈ ns)) ∧ ρ = [.val (.dK T), .val (spotsD spots), .val (.dK (marks kS ns)), .own none (.dN (marks nkP acc2)), .val (.str sp.1), .val (.int sp.2), .val (tabD r.pat rows es), d7]) (decide (nmOf r.pat k ∈ ns)) (jt_cmp (j_ix (v_val (j_ix (v_val (j_nm 6 rfl (j_int ⟨_, rfl, xd_tup rfl (j_bin (j_nm 7 rfl (j_int (bd_sub ⟨_, rfl, xd_lst (d := .str (nmOf r.pat k)) ?_ (v_val (j_nm 2 rfl ⟨_, rfl, cd_inKs hu ⟨marks_some (fun _ _ => kS_inj) _ _, rfl⟩⟩))⟩))))⟩))))))) (fun h => ?_) (fun h => ?_) fun ρ e => ?_)
      · have := atI_map (f := Dt.str) hnm
        rw [show ((k : Int) - 1) = ((k - 1 : Nat) : Int) by omega]
        exact this
      · refine s_cons (t_sub 3 (j_bl ⟨_, _, rfl, (j_tup (l_cons (j_nm 4 rfl (l_cons (j_nm 7 rfl (l_nil ⟨_, _, rfl, wd_dN hu (nkP (sp.1, k)) (by rw [nkP_d]; rfl) (Nat.le_trans (nkP_depth _) (by decide)) ⟨_, rfl⟩ ?_ ?_⟩))))))⟩))
        · unfold marks; rw [List.length_map]; omega
        rw [marks_put (fun _ _ => nkP_inj)]
        refine s_nil ⟨addL acc2 (sp.1, k), _, nodup_addL hn2, Nat.le_trans addL_len (by omega), fun p => ?_, rfl⟩
        rw [mem_addL, ha2, take_snoc hk2, List.mem_append, List.mem_singleton]
        constructor
        · rintro ((h1 | ⟨h1, h2, h3⟩) | h1)
          · exact .inl h1
          · exact .inr ⟨h1, .inl h2, h3⟩
          · subst h1
            exact .inr ⟨rfl, .inr rfl, of_decide_eq_true h⟩
        · rintro (h1 | ⟨h1, h2 | h2, h3⟩)
          · exact .inl (.inl h1)
          · exact .inl (.inr ⟨h1, h2, h3⟩)
          · exact .inr (Prod.ext h1 h2)
      · refine s_nil ⟨acc2, _, hn2, by omega, fun p => ?_, rfl⟩
        rw [ha2, take_snoc hk2, List.mem_append, List.mem_singleton]
        constructor
        · rintro (h1 | ⟨h1, h2, h3⟩)
          · exact .inl h1
          · exact .inr ⟨h1, .inl h2, h3⟩
        · rintro (h1 | ⟨h1, h2 | h2, h3⟩)
          · exact .inl h1
          · exact .inr ⟨h1, h2, h3⟩
          · exact absurd (h2 ▸ h3) (of_decide_eq_false h)
      exact s_nil e
    · subst e
      rw [List.length_map, List.take_length] at ha2
      rw [List.length_map] at hl2
      refine s_nil ⟨acc2, _, _, _, _, hn2, by omega, fun p => ?_, rfl⟩
      rw [ha2, ha, take_snoc hx]
      unfold Beh
      constructor
      · rintro (⟨k, h1, h2⟩ | ⟨h1, h2, h3⟩)
        · exact ⟨k, List.mem_append_left _ h1, h2⟩
        · exact ⟨sp.2, List.mem_append_right _ (by rw [h1]; simp), r, hr', by rw [h1, ename], (hrow1 _).mp h2, h3⟩
      · rintro ⟨k, h1, r2, h2, h3, h4, h5⟩
        rcases List.mem_append.mp h1 with h1 | h1
        · exact .inl ⟨k, h1, r2, h2, h3, h4, h5⟩
        · have h1 : (p.1, k) = sp := by simpa using h1
          have e1 : p.1 = sp.1 := by rw [← h1]
          have e2 : k = sp.2 := by rw [← h1]
          have e3 : r2 = r := names_inj' wf h2 hr' (by rw [h3, e1, ename])
          subst e3 e2
          exact .inr ⟨e1, (hrow1 _).mpr h4, h5⟩
  · subst e
    rw [List.length_map, List.take_length] at ha
    rw [List.length_map] at hl
    have e2 : (marks nkP acc).map (fun kv => nkD kv.1) = acc.map pD := by
      unfold marks
      rw [List.map_map]
      exact List.map_congr_left fun p _ => nkP_d p
    refine s_cons (t_ret (j_ty "tuple" M.tuple (by decide +kernel) (a_cons (v_val (j_blt "sorted" M.sorted (by decide +kernel) (a_cons (v_own 3 rfl (a_nil ⟨_, rfl, kd_sortN hu (by rw [e2]; exact canP (by omega)) ?_⟩))))))))
    rw [e2, sortP]
    refine a_nil ⟨_, rfl, kd_tupL ⟨_, rfl, ?_⟩⟩
    exact q _ (asc_sort ordP hn) fun p => by rw [mem_sort]; exact ha p
def sNamesOf : FS := fun as R => ∃ S T spots, as = [.val (.dK T), .val (spotsD spots)] ∧ WfS S ∧ Tables S T ∧ SpOk S spots ∧ ∀ ns : List Str, (∀ x, x ∈ ns ↔ Nmd S spots x) → R (.dK (marks kS ns)) []
theorem d_names_of_spots (M : Names mg) (h : Has K mg "names_of_spots" (top 35) ["tables", "spots"]) : DefOk P w K mg base "names_of_spots" 1 sNamesOf := by
  refine def_D h ["tables", "spots", "names", "name", "place"] ⟨rfl, rfl, rfl, by decide +kernel, rfl, by decide +kernel, by decide +kernel⟩ (fun as R ⟨_, _, _, e, _⟩ => by subst e; rfl) fun f cdv A outer s H E as R hr hu nd ⟨S, T, spots, e, wf, hT, ok, q⟩ => ?_
  subst e
  have hz := szl
  have hfew := ok.few
  refine s_cons (t_asgN 2 (n_dK ?_) nd)
  refine s_cons (t_for (i_tup (j_nm 1 rfl ⟨_, rfl, fun i ρ => ∃ (ns : List Str) (d3 d4 : Slot), ns.length ≤ i ∧ (∀ x, x ∈ ns ↔ Nmd S (spots.take i) x) ∧ ρ = [.val (.dK T), .val (spotsD spots), .own none (.dK (marks kS ns)), d3, d4], ⟨[], _, _, Nat.le_refl _, fun x => ?_, rfl⟩, fun i d ρ hd ⟨ns, _, _, hl, ha, e⟩ => ?_, fun ρ ⟨ns, _, _, hl, ha, e⟩ => ?_⟩)))
  · simp [Nmd]
  · subst e
    obtain ⟨sp, hx, rfl⟩ := mget hd
    have hm := List.mem_of_getElem? hx
    have hi : i < spots.length := by
      by_cases q : i < spots.length
      · exact q
      · rw [List.getElem?_eq_none (by omega)] at hx; cases hx
    obtain ⟨r, hr', ename, hv, hk⟩ := ok.at' sp hm
    obtain ⟨rows, es, ev, tab⟩ := hT.yes r hr' hv
    rw [ename] at ev
    refine g_tup (gs_cons (g_nm 3 (gs_cons (g_nm 4 (gs_nil ?_) nd)) nd)) rfl
    refine s_cons (t_ifJ (fun ρ => ∃ (ns : List Str) (d3 d4 : Slot), ns.length ≤ i + 1 ∧ (∀ x, x ∈ ns ↔ Nmd S (spots.take (i + 1)) x) ∧ ρ = [.val (.dK T), .val (spotsD spots), .own none (.dK (marks kS ns)), d3, d4]) (decide (sp.2 ∈ es)) (jt_cmp (j_nm 4 rfl (v_val (j_ix (v_val (j_ix (v_val (j_nm 0 rfl (j_nm 3 rfl ⟨_, rfl, xd_dKs hu ev (j_int ⟨_, rfl, xd_tup rfl ⟨_, rfl, cd_inKi hu ⟨marks_some (fun _ _ => kN_inj) _ _, rfl⟩⟩⟩)⟩))))))))) (fun h => ?_) (fun h => ?_) fun ρ e => ?_)
    · refine s_cons (t_sub 2 (j_bl ⟨_, _, rfl, (j_nm 3 rfl ⟨_, _, rfl, wd_dKs hu ?_ ?_⟩)⟩))
      · unfold marks; rw [List.length_map]; omega
      rw [show (Sum.inr sp.1 : Key) = kS sp.1 from rfl, marks_put (fun _ _ => kS_inj)]
      refine s_nil ⟨addL ns sp.1, _, _, Nat.le_trans addL_len (by omega), fun x => ?_, rfl⟩
      rw [mem_addL, ha, take_snoc hx]
      unfold Nmd
      constructor
      · rintro (⟨k, h1, h2⟩ | h1)
        · exact ⟨k, List.mem_append_left _ h1, h2⟩
        · subst h1
          exact ⟨sp.2, List.mem_append_right _ (by simp), r, hr', ename, (tab.ends _).mp (of_decide_eq_true h)⟩
      · rintro ⟨k, h1, h2⟩
        rcases List.mem_append.mp h1 with h1 | h1
        · exact .inl ⟨k, h1, h2⟩
        · have h1 : (x, k) = sp := by simpa using h1
          exact .inr (by rw [← h1])
    · refine s_nil ⟨ns, _, _, by omega, fun x => ?_, rfl⟩
      rw [ha, take_snoc hx]
      unfold Nmd
      constructor
      · rintro ⟨k, h1, h2⟩
        exact ⟨k, List.mem_append_left _ h1, h2⟩
      · rintro ⟨k, h1, r2, h2, h3, h4⟩
        rcases List.mem_append.mp h1 with h1 | h1
        · exact ⟨k, h1, r2, h2, h3, h4⟩
        · have h1 : (x, k) = sp := by simpa using h1
          have e1 : x = sp.1 := by rw [← h1]
          have e2 : k = sp.2 := by rw [← h1]
          have e3 : r2 = r := names_inj' wf h2 hr' (by rw [h3, e1, ename])
          subst e3 e2
          exact absurd ((tab.ends _).mpr h4) (of_decide_eq_false h)
    exact s_nil e
  · subst e
    rw [List.length_map, List.take_length] at ha
    exact s_freeze 2 rfl (s_cons (t_ret (j_nm 2 rfl ⟨_, rfl, q ns ha⟩)))
def sNumber : FS := fun as R => ∃ sets spots, as = [.own (.lst (sets.map spotsD)), .own (.dN (nums sets)), .val (spotsD spots)] ∧ sets.Nodup ∧ sets.length ≤ 100 ∧ (spots ∉ sets → sets.length < 100) ∧ ∀ i, (addL sets spots)[i]? = some spots → R (nD i) [.lst ((addL sets spots).map spotsD), .dN (nums (addL sets spots))]
theorem spK_depth (l : List Spot) : (spK l).depth ≤ 8 := by
  have : NestedKey.depthAll (l.map nkP) ≤ 4 := by
    induction l with
    | nil => simp [NestedKey.depthAll]
    | cons p l ih =>
      rw [List.map_cons, NestedKey.depthAll]
      have := nkP_depth p
      omega
  unfold spK
  rw [NestedKey.depth]
  omega
theorem d_number_of_spots (M : Names mg) (h : Has K mg "number_of_spots" (top 36) ["sets", "numbers", "spots"]) : DefOk P w K mg base "number_of_spots" 1 sNumber := by
  refine def_D h ["sets", "numbers", "spots"] ⟨rfl, rfl, rfl, by decide +kernel, rfl, by decide +kernel, by decide +kernel⟩ (fun as R ⟨_, _, e, _⟩ => by subst e; rfl) fun f cdv A outer s H E as R hr hu nd ⟨sets, spots, e, hn, h100, hnew, q⟩ => ?_
  subst e
  obtain ⟨_, ms⟩ := M.sets
  have hz := szl
  refine s_cons (t_ifJ (fun ρ => ρ = [.own (some 0) (.lst ((addL sets spots).map spotsD)), .own (some 1) (.dN (nums (addL sets spots))), .val (spotsD spots)]) _ (jt_cmp (j_nm 2 rfl (v_own 1 rfl ⟨_, rfl, cd_notinN hu (spK spots) (spK_d _) (spK_depth _) ⟨_, rfl⟩ ⟨rfl, rfl⟩⟩))) (fun h => ?_) (fun h => ?_) fun ρ e => ?_)
  · have hm : spots ∉ sets := fun hm => by
      obtain ⟨i, hi⟩ := List.getElem?_of_mem hm
      rw [nums_at hn hi] at h; simp at h
    have hlt := hnew hm
    refine s_cons (t_ifB _ (jt_cmp (j_blt "len" M.len (by decide +kernel) (a_cons (v_own 0 rfl (a_nil ⟨_, rfl, kd_lenL (v_val (j_globI ms ⟨_, rfl, cd_eq ⟨rfl, rfl⟩⟩))⟩))))) (fun h => ?_) (fun h => ?_))
    · have := of_decide_eq_true h
      rw [List.length_map] at this
      omega
    refine s_nil ?_
    have ea : addL sets spots = sets ++ [spots] := by unfold addL; rw [if_neg hm]
    refine s_cons (t_sub 1 (j_blt "len" M.len (by decide +kernel) (a_cons (v_own 0 rfl (a_nil ⟨_, rfl, kd_lenL ⟨_, _, rfl, (j_nm 2 rfl ⟨_, _, rfl, wd_dN hu (spK spots) (spK_d _) (spK_depth _) ⟨_, rfl⟩ ?_ ?_⟩)⟩⟩)))))
    · rw [nums_len]; omega
    refine s_cons (t_append 0 rfl ⟨_, rfl⟩ (j_nm 2 rfl ⟨_, _, rfl, ?_, s_nil ?_⟩))
    · rw [List.length_map]; omega
    rw [ea, nums_snoc, putD_new (by rw [nums_keys]; intro z; obtain ⟨x, hx, e⟩ := List.mem_map.mp z; exact hm (spK_inj e ▸ hx)), List.length_map, List.map_append]
    rfl
  · have hm : spots ∈ sets := by
      by_cases hm : spots ∈ sets
      · exact hm
      · rw [nums_none hm] at h; simp at h
    have ea : addL sets spots = sets := by unfold addL; rw [if_pos hm]
    rw [ea]
    exact s_nil rfl
  subst e
  have hm : spots ∈ addL sets spots := mem_addL.mpr (.inr rfl)
  obtain ⟨i, hi⟩ := List.getElem?_of_mem hm
  exact s_cons (t_ret (j_ix (v_own 1 rfl (j_nm 2 rfl ⟨_, rfl, xd_dN hu (spK spots) (spK_d _) (spK_depth _) ⟨_, rfl⟩ (nums_at (nodup_addL hn) hi) ⟨_, rfl, q i hi⟩⟩))))
end
end DL

set_option Elab.async false
set_option linter.all false
set_option maxRecDepth 100000
set_option autoImplicit false
set_option maxHeartbeats 4000000
/-! E11: there are at most 70 sets of spots (plain). -/
namespace DL
open PySem PySem.Spec L2
section
variable {α : Type}
def subs : List α → List (List α)
  | [] => [[]]
  | a :: l => subs l ++ (subs l).map (a :: ·)
theorem subs_len : ∀ l : List α, (subs l).length = 2 ^ l.length
  | [] => rfl
  | a :: l => by rw [subs, List.length_append, List.length_map, subs_len l, List.length_cons, Nat.pow_succ]; omega
theorem nil_subs : ∀ l : List α, [] ∈ subs l
  | [] => by simp [subs]
  | a :: l => List.mem_append_left _ (nil_subs l)
theorem subs_sub : ∀ {l m : List α}, m ∈ subs l → m.Sublist l
  | [], m, h => by
    have : m = [] := by simpa [subs] using h
    rw [this]
    exact List.nil_sublist _
  | a :: l, m, h => by
    rcases List.mem_append.mp h with h | h
    · exact (subs_sub h).cons a
    · obtain ⟨m', h', rfl⟩ := List.mem_map.mp h
      exact (subs_sub h').cons_cons a
theorem mem_subs {le : α → α → Bool} (O : Ord le) : ∀ {l m : List α}, Asc le l → Asc le m → (∀ x ∈ m, x ∈ l) → m ∈ subs l
  | [], [], _, _, _ => by simp [subs]
  | [], b :: m, _, _, h => absurd (h b List.mem_cons_self) (by simp)
  | a :: l, [], _, _, _ => nil_subs _
  | a :: l, b :: m, hl, hm, h => by
    have hl' := List.pairwise_cons.mp hl
    have hm' := List.pairwise_cons.mp hm
    rcases List.mem_cons.mp (h b List.mem_cons_self) with e | hb
    · subst e
      refine List.mem_append_right _ (List.mem_map.mpr ⟨m, mem_subs O hl'.2 hm'.2 fun x hx => ?_, rfl⟩)
      rcases List.mem_cons.mp (h x (List.mem_cons_of_mem _ hx)) with e | q
      · exact absurd e.symm (hm'.1 x hx).2
      · exact q
    · refine List.mem_append_left _ (mem_subs O hl'.2 hm fun x hx => ?_)
      rcases List.mem_cons.mp (h x hx) with e | q
      · subst e
        rcases List.mem_cons.mp hx with e | hx
        · exact e ▸ hb
        · exact absurd (O.anti _ _ (hm'.1 _ hx).1 (hl'.1 b hb).1).symm (hl'.1 b hb).2
      · exact q
end
def rowPl (r : Rule) : List Spot := (List.range (cnt r.pat)).map fun i => (r.name, i + 1)
def liveRules (S : Schema) : List Rule := S.rules.filter fun r => !(og r.pat).void
def plc (S : Schema) : List Spot := (liveRules S).flatMap rowPl
theorem mem_rowPl {r : Rule} {p : Spot} : p ∈ rowPl r ↔ p.1 = r.name ∧ 0 < p.2 ∧ p.2 ≤ cnt r.pat := by
  unfold rowPl
  rw [List.mem_map]
  constructor
  · rintro ⟨i, hi, rfl⟩
    have := List.mem_range.mp hi
    exact ⟨rfl, by omega, by show i + 1 ≤ _; omega⟩
  · rintro ⟨h1, h2, h3⟩
    exact ⟨p.2 - 1, List.mem_range.mpr (by omega), Prod.ext h1.symm (by show p.2 - 1 + 1 = p.2; omega)⟩
theorem nodup_pls : ∀ {rs : List Rule}, (rs.map Rule.name).Nodup → (rs.flatMap rowPl).Nodup
  | [], _ => by simp
  | r :: rs, h => by
    have h' := List.nodup_cons.mp (show (r.name :: rs.map Rule.name).Nodup from h)
    rw [List.flatMap_cons, List.nodup_append]
    refine ⟨nodup_map (fun a b e => by have := (Prod.mk.inj e).2; omega) List.nodup_range, nodup_pls h'.2, fun a ha b hb e => ?_⟩
    subst e
    obtain ⟨r2, hr2, h2⟩ := List.mem_flatMap.mp hb
    exact h'.1 (List.mem_map.mpr ⟨r2, hr2, (mem_rowPl.mp h2).1.symm.trans (mem_rowPl.mp ha).1⟩)
theorem sum_filter_le (f : Rule → Nat) (p : Rule → Bool) : ∀ rs : List Rule, ((rs.filter p).map f).sum ≤ (rs.map f).sum
  | [] => by simp
  | r :: rs => by
    have := sum_filter_le f p rs
    rw [List.filter_cons]
    split
    · simp; omega
    · simp; omega
theorem plc_len (rs : List Rule) : (rs.flatMap rowPl).length = (rs.map fun r => cnt r.pat).sum := by
  induction rs with
  | nil => rfl
  | cons r rs ih =>
    rw [List.flatMap_cons, List.length_append, ih, List.map_cons, List.sum_cons]
    congr 1
    unfold rowPl
    rw [List.length_map, List.length_range]
def startL (S : Schema) (l : Str) : List Spot := ((S.rules.filter fun r => !(og r.pat).void && fits r l).map fun r => (r.name, 0)).mergeSort leP
theorem startL_asc {S : Schema} (wf : WfS S) (l : Str) : Asc leP (startL S l) := by
  refine asc_sort ordP ?_
  have : ((S.rules.filter fun r => !(og r.pat).void && fits r l).map Rule.name).Nodup := (List.Sublist.map _ List.filter_sublist).nodup wf.names
  have e : ((S.rules.filter fun r => !(og r.pat).void && fits r l).map fun r => (r.name, 0)) = ((S.rules.filter fun r => !(og r.pat).void && fits r l).map Rule.name).map fun x => (x, 0) := by rw [List.map_map]; rfl
  rw [e]
  exact nodup_map (fun a b h => (Prod.mk.inj h).1) this
theorem mem_startL {S : Schema} {l : Str} {p : Spot} : p ∈ startL S l ↔ Sta S l p := by
  unfold startL
  rw [mem_sort, List.mem_map]
  constructor
  · rintro ⟨r, hr, rfl⟩
    obtain ⟨h1, h2⟩ := List.mem_filter.mp hr
    simp only [Bool.and_eq_true, Bool.not_eq_true'] at h2
    exact ⟨rfl, r, h1, rfl, h2.1, h2.2⟩
  · rintro ⟨h0, r, hr, e, hv, hf⟩
    exact ⟨r, List.mem_filter.mpr ⟨hr, by rw [hv, hf]; rfl⟩, Prod.ext e h0.symm⟩
/-- a bound for the sets of spots -/
structure Univ (S : Schema) (U : List (List Spot)) : Prop where
  few : U.length ≤ 99
  nil : [] ∈ U
  sta : ∀ l L, Asc leP L → (∀ p, p ∈ L ↔ Sta S l p) → L ∈ U
  beh : ∀ spots ns L, SpOk S spots → Asc leP L → (∀ p, p ∈ L ↔ Beh S spots ns p) → L ∈ U
  ok : ∀ s ∈ U, SpOk S s ∧ Asc leP s
theorem univ_ex {S : Schema} (wf : WfS S) : ∃ U, Univ S U := by
  obtain ⟨ts, h3, hts⟩ := wf.three
  have nd1 : ((liveRules S).map Rule.name).Nodup := (List.Sublist.map _ List.filter_sublist).nodup wf.names
  have ascP : Asc leP ((plc S).mergeSort leP) := asc_sort ordP (nodup_pls nd1)
  have hlen : (plc S).length ≤ 6 := by
    unfold plc
    rw [plc_len]
    exact Nat.le_trans (sum_filter_le _ _ _) wf.total
  have mem_plc : ∀ p : Spot, p ∈ plc S ↔ ∃ r ∈ S.rules, r.name = p.1 ∧ (og r.pat).void = false ∧ 0 < p.2 ∧ p.2 ≤ cnt r.pat := fun p => by
    unfold plc liveRules
    rw [List.mem_flatMap]
    constructor
    · rintro ⟨r, hr, h⟩
      obtain ⟨h1, h2⟩ := List.mem_filter.mp hr
      have := mem_rowPl.mp h
      exact ⟨r, h1, this.1.symm, by simpa using h2, this.2⟩
    · rintro ⟨r, hr, e, hv, h⟩
      exact ⟨r, List.mem_filter.mpr ⟨hr, by simpa using hv⟩, mem_rowPl.mpr ⟨e.symm, h⟩⟩
  refine ⟨(ts ++ ts.map (fun x : Str => x ++ (":" : Str))).map (startL S) ++ subs ((plc S).mergeSort leP), ⟨?_, ?_, ?_, ?_, ?_⟩⟩
  · rw [List.length_append, List.length_map, List.length_append, List.length_map, subs_len, List.length_mergeSort]
    have : 2 ^ (plc S).length ≤ 2 ^ 6 := Nat.pow_le_pow_right (by decide) hlen
    omega
  · exact List.mem_append_right _ (nil_subs _)
  · intro l L asc hL
    by_cases h : l ∈ ts ++ ts.map (fun x : Str => x ++ (":" : Str))
    · refine List.mem_append_left _ (List.mem_map.mpr ⟨l, h, asc_unique ordP (startL_asc wf l) asc fun p => mem_startL.trans (hL p).symm⟩)
    · have : L = [] := by
        cases L with
        | nil => rfl
        | cons p L =>
          obtain ⟨_, r, hr, _, _, hf⟩ := (hL p).mp List.mem_cons_self
          refine absurd ?_ h
          rcases fits_cases hf with e | e
          · exact List.mem_append_left _ (e ▸ hts r hr)
          · exact List.mem_append_right _ (List.mem_map.mpr ⟨r.tag, hts r hr, e.symm⟩)
      rw [this]
      exact List.mem_append_right _ (nil_subs _)
  · intro spots ns L ok asc hL
    refine List.mem_append_right _ (mem_subs ordP ascP asc fun p hp => ?_)
    rw [mem_sort, mem_plc]
    obtain ⟨k, hk, r, hr, e, ha, _⟩ := (hL p).mp hp
    obtain ⟨r', hr', e', hv, _⟩ := ok.at' _ hk
    have : r' = r := names_inj' wf hr' hr (e'.trans e.symm)
    subst this
    exact ⟨r', hr', e', hv, ha.bd⟩
  · intro s hs
    rcases List.mem_append.mp hs with hs | hs
    · obtain ⟨l, _, rfl⟩ := List.mem_map.mp hs
      refine ⟨⟨?_, fun p hp => ?_⟩, startL_asc wf l⟩
      · unfold startL
        rw [List.length_mergeSort, List.length_map]
        have := List.length_filter_le (fun r => !(og r.pat).void && fits r l) S.rules
        have := wf.few
        omega
      · obtain ⟨h0, r, hr, e, hv, _⟩ := mem_startL.mp hp
        exact ⟨r, hr, e, hv, by omega⟩
    · have sub := subs_sub hs
      refine ⟨⟨?_, fun p hp => ?_⟩, List.Pairwise.sublist sub ascP⟩
      · have := sub.length_le
        rw [List.length_mergeSort] at this
        omega
      · have := sub.subset hp
        rw [mem_sort, mem_plc] at this
        obtain ⟨r, hr, e, hv, h1, h2⟩ := this
        exact ⟨r, hr, e, hv, h2⟩
theorem Univ.le {S : Schema} {U sets : List (List Spot)} (u : Univ S U) (nd : sets.Nodup) (h : ∀ s ∈ sets, s ∈ U) : sets.length ≤ 99 := Nat.le_trans (le_of_sub nd h) u.few
end DL

set_option Elab.async false
set_option linter.all false
set_option maxRecDepth 100000
set_option autoImplicit false
set_option maxHeartbeats 4000000
/-! E12: steps_among. -/
namespace DL
open PySem PySem.Spec L2
def kk (a b : Nat) : List Key := [kN a, kN b]
theorem kk_inj {a b c d : Nat} (h : kk a b = kk c d) : a = c ∧ b = d := by
  unfold kk at h
  injection h with h1 h2
  injection h2 with h2 h3
  exact ⟨kN_inj h1, kN_inj h2⟩
def Bh (S : Schema) (s t : List Spot) (p : Spot) : Prop := ∃ k, (p.1, k) ∈ s ∧ ∃ r ∈ S.rules, r.name = p.1 ∧ Aft r.pat k p.2 ∧ Nmd S t (nmOf r.pat p.2)
theorem beh_bh {S : Schema} {s t : List Spot} {ns : List Str} (h : ∀ x, x ∈ ns ↔ Nmd S t x) (p : Spot) : Beh S s ns p ↔ Bh S s t p := by
  unfold Beh Bh
  simp only [h]
def StepVal (S : Schema) (sets : List (List Spot)) (a b v : Nat) : Prop :=
  ∃ sa sb L, sets[a]? = some sa ∧ sets[b]? = some sb ∧ sets[v]? = some L ∧ ∀ p, p ∈ L ↔ Bh S sa sb p
def StepOk (S : Schema) (sets : List (List Spot)) (st : List (List Key × Dt)) (a b : Nat) : Prop := ∃ v, valD st (kk a b) = some (nD v) ∧ StepVal S sets a b v
theorem addL_get {sets : List (List Spot)} {x s : List Spot} {i : Nat} (h : sets[i]? = some s) : (addL sets x)[i]? = some s := by
  unfold addL
  split
  · exact h
  · have : i < sets.length := by
      by_cases q : i < sets.length
      · exact q
      · rw [List.getElem?_eq_none (by omega)] at h; cases h
    rw [List.getElem?_append_left this, h]
theorem StepVal.add {S : Schema} {sets : List (List Spot)} {a b v : Nat} {x : List Spot} (h : StepVal S sets a b v) : StepVal S (addL sets x) a b v := by
  obtain ⟨sa, sb, L, h1, h2, h3, h4⟩ := h
  exact ⟨sa, sb, L, addL_get h1, addL_get h2, addL_get h3, h4⟩
theorem StepOk.add {S : Schema} {sets : List (List Spot)} {st : List (List Key × Dt)} {a b : Nat} {x : List Spot} (h : StepOk S sets st a b) : StepOk S (addL sets x) st a b := by
  obtain ⟨v, h1, h2⟩ := h
  exact ⟨v, h1, h2.add⟩
theorem StepOk.put {S : Schema} {sets : List (List Spot)} {st : List (List Key × Dt)} {a b c d v : Nat} (hn : StepVal S sets c d v) (h : (a = c ∧ b = d) ∨ StepOk S sets st a b) : StepOk S sets (putD st (kk c d) (nD v)) a b := by
  unfold StepOk
  rw [valD_put]
  by_cases e : a = c ∧ b = d
  · obtain ⟨rfl, rfl⟩ := e
    exact ⟨v, by rw [if_pos rfl], hn⟩
  · rw [if_neg fun z => e (kk_inj z)]
    exact h.resolve_left e
theorem addL_ext {sets0 sets : List (List Spot)} {x : List Spot} (h : ∃ ext, sets = sets0 ++ ext) : ∃ ext, addL sets x = sets0 ++ ext := by
  obtain ⟨ext, rfl⟩ := h
  unfold addL
  split
  · exact ⟨ext, rfl⟩
  · exact ⟨ext ++ [x], by rw [List.append_assoc]⟩
theorem addL_sub {U sets : List (List Spot)} {x : List Spot} (h : ∀ s ∈ sets, s ∈ U) (hx : x ∈ U) : ∀ s ∈ addL sets x, s ∈ U := fun s hs => (mem_addL.mp hs).elim (h s) fun e => e ▸ hx
theorem addL_ge {sets : List (List Spot)} {x : List Spot} : sets.length ≤ (addL sets x).length := by
  unfold addL
  split <;> simp
def nsD (ns : List Str) : Dt := .dK (marks kS ns)
structure SInv (S : Schema) (U sets0 sets : List (List Spot)) (nss : List (List Str)) : Prop where
  ext : ∃ ext, sets = sets0 ++ ext
  nd : sets.Nodup
  sub : ∀ s ∈ sets, s ∈ U
  names : ∀ (i : Nat) (ns : List Str), nss[i]? = some ns → ∃ s, sets[i]? = some s ∧ ∀ x, x ∈ ns ↔ Nmd S s x
theorem SInv.add {S : Schema} {U sets0 sets : List (List Spot)} {nss : List (List Str)} {x : List Spot} (h : SInv S U sets0 sets nss) (hx : x ∈ U) : SInv S U sets0 (addL sets x) nss :=
  ⟨addL_ext h.ext, nodup_addL h.nd, addL_sub h.sub hx, fun i ns hi => by
    obtain ⟨s, h1, h2⟩ := h.names i ns hi
    exact ⟨s, addL_get h1, h2⟩⟩
section
variable {P : Program} {w : World} {K : PySem.W.Frag} {mg : Str → Option Value} {base : Heap}
def sAmong : FS := fun as R => ∃ S T U sets0, as = [.val (.dK T), .own (.lst (sets0.map spotsD)), .own (.dN (nums sets0))] ∧ WfS S ∧ Tables S T ∧ Univ S U ∧ sets0.Nodup ∧ (∀ s ∈ sets0, s ∈ U) ∧
  ∀ sets st, (∃ ext, sets = sets0 ++ ext) → sets.Nodup → (∀ s ∈ sets, s ∈ U) → (∀ a b, a < sets.length → b < sets.length → StepOk S sets st a b) → R (.dT st) [.lst (sets.map spotsD), .dN (nums sets)]
theorem d_steps_among (M : Names mg) (D1 : DefOk P w K mg base "names_of_spots" 1 sNamesOf) (D2 : DefOk P w K mg base "number_of_spots" 1 sNumber) (D3 : DefOk P w K mg base "spots_behind" 1 sBehind) (h : Has K mg "steps_among" (top 37) ["tables", "sets", "numbers"]) : DefOk P w K mg base "steps_among" 2 sAmong := by
  refine def_D h ["tables", "sets", "numbers", "steps", "names", "k", "j"] ⟨rfl, rfl, rfl, by decide +kernel, rfl, by decide +kernel, by decide +kernel⟩ (fun as R ⟨_, _, _, _, e, _⟩ => by subst e; rfl) fun f cdv A outer s H E as R hr hu nd ⟨S, T, U, sets0, e, wf, hT, u, hn0, hs0, q⟩ => ?_
  subst e
  have hz := szl
  refine s_cons (t_asgN 3 (n_dT ?_) nd)
  refine s_cons (t_asgN 4 (n_lst (l_nil ?_)) nd)
  refine s_cons (t_asg 5 (j_int ?_) nd)
  refine s_cons (t_while (fun m ρ => ∃ (sets : List (List Spot)) (st : List (List Key × Dt)) (nss : List (List Str)) (k : Nat) (d6 : Slot), m = 100 - k ∧ k ≤ sets.length ∧ nss.length = k ∧ st.length ≤ 200 * k ∧ SInv S U sets0 sets nss ∧ (∀ a b, a < k → b < k → StepOk S sets st a b) ∧
    ρ = [.val (.dK T), .own (some 0) (.lst (sets.map spotsD)), .own (some 1) (.dN (nums sets)), .own none (.dT st), .own none (.lst (nss.map nsD)), .val (nD k), d6]) ⟨_, sets0, [], [], 0, _, rfl, Nat.zero_le _, rfl, Nat.le_refl _, ⟨⟨[], by simp⟩, hn0, hs0, fun i ns h => by simp at h⟩, fun a b h => by omega, rfl⟩ fun m ρ ⟨sets, st, nss, k, d6, em, hk, hl, hst, I, hold, e⟩ => ?_)
  have h99 := u.le I.nd I.sub
  subst e
  refine (jt_cmp (j_nm 5 rfl (v_val (j_blt "len" M.len (by decide +kernel) (a_cons (v_own 1 rfl (a_nil ⟨_, rfl, kd_lenL ⟨_, rfl, cd_lt ⟨fun h => ?_, fun h => ?_⟩⟩⟩)))))))
  · have hk : k < sets.length := by
      have := of_decide_eq_true h
      rw [List.length_map] at this
      omega
    have ek : sets[k]? = some sets[k] := List.getElem?_eq_getElem hk
    generalize hsk : sets[k] = sk at ek
    have okk := (u.ok sk (I.sub sk (List.mem_of_getElem? ek))).1
    refine s_cons (t_append 4 rfl ⟨_, rfl⟩ (j_call D1 hr (a_cons (v_val (j_nm 0 rfl (a_cons (v_val (j_ix (v_own 1 rfl (j_nm 5 rfl ⟨_, rfl, xd_lst (atI_map ek) (a_nil ⟨_, rfl, nd0, ⟨S, T, sk, rfl, wf, hT, okk, fun ns hns => ⟨_, _, rfl, ?_, ?_⟩⟩⟩)⟩))))))))))
    · rw [List.length_map]; omega
    have I2 : SInv S U sets0 sets (nss ++ [ns]) := ⟨I.ext, I.nd, I.sub, fun i ns' hi => by
      rw [List.getElem?_append] at hi
      split at hi
      · exact I.names i ns' hi
      · have : i = nss.length := by
          by_cases e : i - nss.length = 0
          · omega
          · rw [List.getElem?_eq_none (by simp; omega)] at hi; cases hi
        subst this
        simp at hi
        subst hi
        rw [hl]
        exact ⟨sk, ek, hns⟩⟩
    have eD : nss.map nsD ++ [.dK (marks kS ns)] = (nss ++ [ns]).map nsD := by rw [List.map_append]; rfl
    rw [eD]
    have hl2 : (nss ++ [ns]).length = k + 1 := by rw [List.length_append, hl]; rfl
    generalize nss ++ [ns] = nss2 at I2 hl2
    refine s_cons (t_for (i_rng1 M.range (j_bin (j_nm 5 rfl (j_int (bd_add ⟨_, rfl, ⟨?_, ?_⟩, fun j ρ => ∃ (sets : List (List Spot)) (st : List (List Key × Dt)) (d6 : Slot), k < sets.length ∧ st.length ≤ 200 * k + 2 * j ∧ SInv S U sets0 sets nss2 ∧ (∀ a b, a < k → b < k → StepOk S sets st a b) ∧ (∀ a, a < j → StepOk S sets st a k ∧ StepOk S sets st k a) ∧
      ρ = [.val (.dK T), .own (some 0) (.lst (sets.map spotsD)), .own (some 1) (.dN (nums sets)), .own none (.dT st), .own none (.lst (nss2.map nsD)), .val (nD k), d6], ⟨sets, st, _, hk, hst, I2, hold, fun a h => by omega, rfl⟩, fun j d ρ hd ⟨sets, st, _, hk, hst, I, hold, hnew, e⟩ => ?_, fun ρ ⟨sets, st, _, hk, hst, I, hold, hnew, e⟩ => ?_⟩))))))
    · omega
    · omega
    · subst e
      obtain ⟨hj, rfl⟩ := rget hd
      have hj : j ≤ k := by omega
      have hp : (0 : Int) + (j : Int) * 1 = (j : Int) := by omega
      rw [hp]
      clear ek hsk okk
      have h99 := u.le I.nd I.sub
      have ej : sets[j]? = some sets[j] := List.getElem?_eq_getElem (by omega)
      have ek : sets[k]? = some sets[k] := List.getElem?_eq_getElem hk
      generalize sets[j] = sj at ej
      generalize sets[k] = sk at ek
      have enj : nss2[j]? = some nss2[j] := List.getElem?_eq_getElem (by omega)
      have enk : nss2[k]? = some nss2[k] := List.getElem?_eq_getElem (by omega)
      generalize nss2[j] = nj at enj
      generalize nss2[k] = nk at enk
      obtain ⟨sj', ej', hnj⟩ := I.names j nj enj
      rw [ej] at ej'; cases ej'
      obtain ⟨sk', ek', hnk⟩ := I.names k nk enk
      rw [ek] at ek'; cases ek'
      have okj := (u.ok sj (I.sub sj (List.mem_of_getElem? ej))).1
      have okk := (u.ok sk (I.sub sk (List.mem_of_getElem? ek))).1
      refine g_nm 6 ?_ nd
      refine s_cons (t_sub 3 (j_call D2 hr (a_cons (v_own 1 rfl (a_cons (v_own 2 rfl (a_cons (v_val (j_call D3 hr (a_cons (v_val (j_nm 0 rfl (a_cons (v_val (j_ix (v_own 1 rfl (j_nm 6 rfl ⟨_, rfl, xd_lst (atI_map ej) (a_cons (v_val (j_ix (v_own 4 rfl (j_nm 5 rfl ⟨_, rfl, xd_lst (atI_map enk) (a_nil ⟨_, rfl, nd0, ⟨S, T, sj, nk, rfl, wf, hT, okj, fun L asc hL => (a_nil ⟨_, rfl, nd2, ⟨sets, L, rfl, I.nd, by omega, fun _ => by omega, fun v hv => ⟨_, _, rfl, (j_tup (l_cons (j_nm 6 rfl (l_cons (j_nm 5 rfl (l_nil ⟨_, _, rfl, wd_dT hu (kk j k) rfl ?_ ?_⟩))))))⟩⟩⟩)⟩⟩)⟩)))))⟩)))))))))))))))))
      · omega
      have hLU := u.beh sj nk L okj asc hL
      have hL' : ∀ p, p ∈ L ↔ Bh S sj sk p := fun p => (hL p).trans (beh_bh hnk p)
      have I := I.add hLU
      have sv : StepVal S (addL sets L) j k v := ⟨sj, sk, L, addL_get ej, addL_get ek, hv, hL'⟩
      have hold : ∀ a b, a < k → b < k → StepOk S (addL sets L) (putD st (kk j k) (nD v)) a b := fun a b ha hb => .put sv (.inr (hold a b ha hb).add)
      have hnew : ∀ a, a < j → StepOk S (addL sets L) (putD st (kk j k) (nD v)) a k ∧ StepOk S (addL sets L) (putD st (kk j k) (nD v)) k a := fun a ha => ⟨.put sv (.inr (hnew a ha).1.add), .put sv (.inr (hnew a ha).2.add)⟩
      have hjk : StepOk S (addL sets L) (putD st (kk j k) (nD v)) j k := .put sv (.inl ⟨rfl, rfl⟩)
      have hst : (putD st (kk j k) (nD v)).length ≤ 200 * k + 2 * j + 1 := Nat.le_trans (putD_len _ _ _) (by omega)
      have hk : k < (addL sets L).length := Nat.lt_of_lt_of_le hk addL_ge
      have ej := addL_get (x := L) ej
      have ek := addL_get (x := L) ek
      clear sv hv hL hL' hLU asc
      generalize putD st (kk j k) (nD v) = st at hold hnew hjk hst
      generalize addL sets L = sets at *
      have h99 := u.le I.nd I.sub
      refine s_cons (t_sub 3 (j_call D2 hr (a_cons (v_own 1 rfl (a_cons (v_own 2 rfl (a_cons (v_val (j_call D3 hr (a_cons (v_val (j_nm 0 rfl (a_cons (v_val (j_ix (v_own 1 rfl (j_nm 5 rfl ⟨_, rfl, xd_lst (atI_map ek) (a_cons (v_val (j_ix (v_own 4 rfl (j_nm 6 rfl ⟨_, rfl, xd_lst (atI_map enj) (a_nil ⟨_, rfl, nd0, ⟨S, T, sk, nj, rfl, wf, hT, okk, fun L asc hL => (a_nil ⟨_, rfl, nd2, ⟨sets, L, rfl, I.nd, by omega, fun _ => by omega, fun v hv => ⟨_, _, rfl, (j_tup (l_cons (j_nm 5 rfl (l_cons (j_nm 6 rfl (l_nil ⟨_, _, rfl, wd_dT hu (kk k j) rfl ?_ ?_⟩))))))⟩⟩⟩)⟩⟩)⟩)))))⟩)))))))))))))))))
      · omega
      have hLU := u.beh sk nj L okk asc hL
      have hL' : ∀ p, p ∈ L ↔ Bh S sk sj p := fun p => (hL p).trans (beh_bh hnj p)
      have I := I.add hLU
      have sv : StepVal S (addL sets L) k j v := ⟨sk, sj, L, addL_get ek, addL_get ej, hv, hL'⟩
      refine s_nil ⟨addL sets L, putD st (kk k j) (nD v), .val (nD j), Nat.lt_of_lt_of_le hk addL_ge, Nat.le_trans (putD_len _ _ _) (by omega), I, fun a b ha hb => .put sv (.inr (hold a b ha hb).add), fun a ha => ?_, rfl⟩
      by_cases e : a = j
      · subst e
        exact ⟨.put sv (.inr hjk.add), .put sv (.inl ⟨rfl, rfl⟩)⟩
      · have := hnew a (by omega)
        exact ⟨.put sv (.inr this.1.add), .put sv (.inr this.2.add)⟩
    · subst e
      rw [rng_len] at hst hnew
      have ek1 : ((k : Int) + 1).toNat = k + 1 := by omega
      have hn' : ((nD k : Dt) = .int k) := rfl
      refine s_cons (t_asg 5 (j_bin (j_nm 5 rfl (j_int (bd_add ?_)))) nd)
      refine s_nil ⟨99 - k, by omega, sets, st, nss2, k + 1, _, by omega, hk, hl2, by omega, I, fun a b ha hb => ?_, rfl⟩
      by_cases ea : a = k
      · subst ea
        exact (hnew b (by omega)).2
      · by_cases eb : b = k
        · subst eb
          exact (hnew a (by omega)).1
        · exact hold a b (by omega) (by omega)
  · have hk2 : sets.length ≤ k := by
      have := of_decide_eq_false h
      rw [List.length_map] at this
      omega
    have : k = sets.length := by omega
    subst this
    exact s_freeze 3 rfl (s_cons (t_ret (j_nm 3 rfl ⟨_, rfl, q sets st I.ext I.nd I.sub hold⟩)))
end
end DL

set_option Elab.async false
set_option linter.all false
set_option maxRecDepth 100000
set_option autoImplicit false
set_option maxHeartbeats 4000000
/-! E13: runs of machines on trees, what a schema admits; machine_of. -/
namespace DL
open PySem PySem.Spec L2
/-! ### runs -/
def Mach.start (M : Mach) (l : Str) : Nat := ((M.starts.find? fun x => decide (x.1 = l)).map (·.2)).getD 0
mutual
def Mach.run (M : Mach) : Tr → Nat
  | .node g w ks => M.runs ks (M.start (lab (.node g w ks)))
def Mach.runs (M : Mach) : List Tr → Nat → Nat
  | [], s => s
  | t :: ts, s => M.runs ts (M.δ s (M.run t))
end
/-! ### what a schema says -/
abbrev SpS := Spot → Prop
def NmP (S : Schema) (X : SpS) (x : Str) : Prop := ∃ k, X (x, k) ∧ ∃ r ∈ S.rules, r.name = x ∧ EndP r.pat k
def BhP (S : Schema) (X : SpS) (N : Str → Prop) : SpS := fun p => ∃ k, X (p.1, k) ∧ ∃ r ∈ S.rules, r.name = p.1 ∧ Aft r.pat k p.2 ∧ N (nmOf r.pat p.2)
mutual
def StT (S : Schema) : Tr → SpS
  | .node g w ks => StTs S ks (Sta S (lab (.node g w ks)))
def StTs (S : Schema) : List Tr → SpS → SpS
  | [], X => X
  | t :: ts, X => StTs S ts (BhP S X (NmP S (StT S t)))
end
def Admits (S : Schema) (t : Tr) : Prop := ∃ x ∈ S.roots, NmP S (StT S t) x
theorem bhP_iff {S : Schema} {X X' : SpS} {N N' : Str → Prop} (h : ∀ p, X p ↔ X' p) (h2 : ∀ x, N x ↔ N' x) (p : Spot) : BhP S X N p ↔ BhP S X' N' p := by
  unfold BhP
  simp only [h, h2]
theorem nmP_iff {S : Schema} {X X' : SpS} (h : ∀ p, X p ↔ X' p) (x : Str) : NmP S X x ↔ NmP S X' x := by
  unfold NmP
  simp only [h]
theorem stTs_iff {S : Schema} : ∀ (ts : List Tr) {X X' : SpS}, (∀ p, X p ↔ X' p) → ∀ p, StTs S ts X p ↔ StTs S ts X' p
  | [], _, _, h, p => by rw [StTs, StTs]; exact h p
  | t :: ts, _, _, h, p => by rw [StTs, StTs]; exact stTs_iff ts (bhP_iff h fun _ => Iff.rfl) p
/-! ### the machine of the sets -/
def getI : Option Dt → Nat
  | some (.int i) => i.toNat
  | _ => 0
def mat (st : List (List Key × Dt)) (n : Nat) : List (List Nat) := (List.range n).map fun p => (List.range n).map fun q => getI (valD st (kk p q))
theorem mat_at {st : List (List Key × Dt)} {n p q : Nat} (hp : p < n) (hq : q < n) : stepOf (mat st n) p q = getI (valD st (kk p q)) := by
  unfold stepOf mat
  rw [List.getD_eq_getElem?_getD, List.getD_eq_getElem?_getD, List.getElem?_map, List.getElem?_range hp]
  simp [List.getElem?_range hq]
theorem mat_out {st : List (List Key × Dt)} {n p q : Nat} (h : n ≤ p ∨ n ≤ q) : stepOf (mat st n) p q = 0 := by
  unfold stepOf mat
  rw [List.getD_eq_getElem?_getD, List.getD_eq_getElem?_getD, List.getElem?_map]
  by_cases hp : p < n
  · have hq : n ≤ q := h.resolve_left (by omega)
    have e : (List.range n)[q]? = none := by simp; omega
    rw [List.getElem?_range hp]
    simp [e]
  · have e : (List.range n)[p]? = none := by simp; omega
    rw [e]
    rfl
/-- what the numbered sets and the steps between them are -/
structure IsM (S : Schema) (sets : List (List Spot)) (st : List (List Key × Dt)) (M : Mach) : Prop where
  nd : sets.Nodup
  nil : sets[0]? = some []
  few : sets.length ≤ 99
  steps : M.steps = mat st sets.length
  ok : ∀ a b, a < sets.length → b < sets.length → StepOk S sets st a b
  lbl : ∃ L : List Str, Asc leS L ∧ (∀ l, l ∈ L ↔ ∃ r ∈ S.rules, fits r l = true) ∧ (M.starts.map (·.1)).Sublist L ∧ ∀ l ∈ L, (∃ x ∈ M.starts, x.1 = l) ∨ ∀ p, ¬ Sta S l p
  st : ∀ x ∈ M.starts, x.2 ≠ 0 ∧ ∃ s, sets[x.2]? = some s ∧ ∀ p, p ∈ s ↔ Sta S x.1 p
  good : Asc leN M.good ∧ ∀ k, k ∈ M.good ↔ ∃ s, sets[k]? = some s ∧ ∃ x ∈ S.roots, Nmd S s x
section
variable {S : Schema} {sets : List (List Spot)} {st : List (List Key × Dt)} {M : Mach}
theorem IsM.n (h : IsM S sets st M) : M.n = sets.length := by
  unfold Mach.n
  rw [h.steps]
  unfold mat
  simp
theorem IsM.val (h : IsM S sets st M) {a b : Nat} (ha : a < sets.length) (hb : b < sets.length) : StepVal S sets a b (M.δ a b) := by
  obtain ⟨v, h1, h2⟩ := h.ok a b ha hb
  have : M.δ a b = v := by
    unfold Mach.δ
    rw [h.steps, mat_at ha hb, h1]
    rfl
  rw [this]
  exact h2
theorem lt_of_get {α : Type} {l : List α} {i : Nat} {x : α} (h : l[i]? = some x) : i < l.length := by
  by_cases q : i < l.length
  · exact q
  · rw [List.getElem?_eq_none (by omega)] at h; cases h
theorem IsM.wf (h : IsM S sets st M) (wf : WfS S) : WfM M := by
  have hn := h.n
  have h0 := lt_of_get h.nil
  have few := h.few
  have hdead : ∀ {a b : Nat}, a < sets.length → b < sets.length → (∀ p, ¬ ∃ sa sb, sets[a]? = some sa ∧ sets[b]? = some sb ∧ Bh S sa sb p) → M.δ a b = 0 := fun {a b} ha hb hno => by
    obtain ⟨sa, sb, L, h1, h2, h3, h4⟩ := h.val ha hb
    have : L = [] := by
      cases L with
      | nil => rfl
      | cons p L => exact absurd ⟨sa, sb, h1, h2, (h4 p).mp List.mem_cons_self⟩ (hno p)
    rw [this] at h3
    exact nodup_at h.nd h3 h.nil
  refine ⟨⟨?_, ?_, ?_, ?_, ?_⟩, ⟨?_, ?_, ?_, ?_⟩, ⟨?_, h.good.1⟩⟩
  · show 1 ≤ M.n; omega
  · show M.n ≤ 100; omega
  · intro r hr
    show r.length = M.n
    rw [h.steps] at hr
    unfold mat at hr
    obtain ⟨p, _, rfl⟩ := List.mem_map.mp hr
    rw [hn]; simp
  · intro r hr x hx
    show x < M.n
    rw [h.steps] at hr
    unfold mat at hr
    obtain ⟨p, hp, rfl⟩ := List.mem_map.mp hr
    obtain ⟨q, hq, rfl⟩ := List.mem_map.mp hx
    obtain ⟨v, h1, _, _, _, _, _, h3, _⟩ := h.ok p q (List.mem_range.mp hp) (List.mem_range.mp hq)
    rw [h1, hn]
    exact lt_of_get h3
  · intro q
    have z1 : stepOf M.steps 0 q = 0 := by
      by_cases hq : q < sets.length
      · refine hdead h0 hq fun p ⟨sa, sb, h1, h2, h3⟩ => ?_
        rw [h.nil] at h1; cases h1
        obtain ⟨k, hk, _⟩ := h3
        cases hk
      · rw [h.steps]; exact mat_out (.inr (by omega))
    have z2 : stepOf M.steps q 0 = 0 := by
      by_cases hq : q < sets.length
      · refine hdead hq h0 fun p ⟨sa, sb, h1, h2, h3⟩ => ?_
        rw [h.nil] at h2; cases h2
        obtain ⟨k, hk, r, hr, _, _, k2, hk2, _⟩ := h3
        cases hk2
      · rw [h.steps]; exact mat_out (.inl (by omega))
    exact ⟨z1, z2⟩
  · intro x hx
    obtain ⟨h1, s, h2, h3⟩ := h.st x hx
    obtain ⟨L, asc, hL, sub, _⟩ := h.lbl
    obtain ⟨r, hr, hf⟩ := (hL x.1).mp (sub.subset (List.mem_map.mpr ⟨x, hx, rfl⟩))
    have := lt_of_get h2
    exact ⟨fits_lab wf hr hf, by omega, by rw [hn]; exact this⟩
  · obtain ⟨L, asc, hL, sub, _⟩ := h.lbl
    have q : Asc leS (M.starts.map (·.1)) := List.Pairwise.sublist sub asc
    unfold Asc at q
    rw [List.pairwise_map] at q
    refine q.imp fun {a b} ⟨h1, h2⟩ => ⟨?_, fun e => h2 (congrArg Prod.fst e)⟩
    unfold leP
    rw [if_neg h2]
    exact h1
  · obtain ⟨L, asc, hL, sub, _⟩ := h.lbl
    exact sub.nodup asc.nodup
  · obtain ⟨L, asc, hL, sub, _⟩ := h.lbl
    have h1 := le_of_sub (ns := lbls S.rules) asc.nodup fun x hx => mem_lbls.mpr ((hL x).mp hx)
    have h2 := lbls_len S.rules
    have h3 := sub.length_le
    have h4 := wf.few
    rw [List.length_map] at h3
    omega
  · intro k hk
    obtain ⟨s, h1, x, hx, h2⟩ := (h.good.2 k).mp hk
    refine ⟨?_, by rw [hn]; exact lt_of_get h1⟩
    by_cases e : k = 0
    · subst e
      rw [h.nil] at h1; cases h1
      obtain ⟨_, hk2, _⟩ := h2
      cases hk2
    · omega
theorem start_some {M : Mach} (nd : (M.starts.map (·.1)).Nodup) {x : Str × Nat} (hx : x ∈ M.starts) : M.start x.1 = x.2 := by
  unfold Mach.start
  have key : ∀ l : List (Str × Nat), (l.map (·.1)).Nodup → x ∈ l → l.find? (fun y => decide (y.1 = x.1)) = some x := by
    intro l
    induction l with
    | nil => intro _ h; cases h
    | cons y l ih =>
      intro nd h
      have nd' := List.nodup_cons.mp (show (y.1 :: l.map (·.1)).Nodup from nd)
      rw [List.find?_cons]
      rcases List.mem_cons.mp h with e | h
      · subst e; simp
      · have : ¬ y.1 = x.1 := fun e => nd'.1 (e ▸ List.mem_map.mpr ⟨x, h, rfl⟩)
        simp only [this, decide_false]
        exact ih nd'.2 h
  rw [key _ nd hx]
  rfl
theorem start_none {M : Mach} {l : Str} (h : ∀ x ∈ M.starts, x.1 ≠ l) : M.start l = 0 := by
  unfold Mach.start
  rw [List.find?_eq_none.mpr fun x hx => by simpa using h x hx]
  rfl
/-- where the machine is behind a tree -/
def AtSet (S : Schema) (sets : List (List Spot)) (v : Nat) (X : SpS) : Prop := ∃ s, sets[v]? = some s ∧ ∀ p, p ∈ s ↔ X p
theorem IsM.start (h : IsM S sets st M) (l : Str) : AtSet S sets (M.start l) (Sta S l) := by
  obtain ⟨L, asc, hL, sub, hall⟩ := h.lbl
  have nd := sub.nodup asc.nodup
  by_cases hx : ∃ x ∈ M.starts, x.1 = l
  · obtain ⟨x, hx, rfl⟩ := hx
    rw [start_some nd hx]
    exact (h.st x hx).2
  · rw [start_none fun x h1 e => hx ⟨x, h1, e⟩]
    have : ∀ p, ¬ Sta S l p := by
      by_cases hl : l ∈ L
      · exact (hall l hl).resolve_left hx
      · intro p ⟨_, r, hr, _, _, hf⟩
        exact hl ((hL l).mpr ⟨r, hr, hf⟩)
    exact ⟨[], h.nil, fun p => ⟨fun q => absurd q (by simp), fun q => absurd q (this p)⟩⟩
theorem nmd_nmP {s : List Spot} {X : SpS} (h : ∀ p, p ∈ s ↔ X p) (x : Str) : Nmd S s x ↔ NmP S X x := nmP_iff (X := (· ∈ s)) h x
theorem IsM.step (h : IsM S sets st M) {a b : Nat} {X Y : SpS} (ha : AtSet S sets a X) (hb : AtSet S sets b Y) : AtSet S sets (M.δ a b) (BhP S X (NmP S Y)) := by
  obtain ⟨s, h1, h2⟩ := ha
  obtain ⟨t, h3, h4⟩ := hb
  obtain ⟨sa, sb, L, e1, e2, e3, e4⟩ := h.val (lt_of_get h1) (lt_of_get h3)
  rw [h1] at e1; cases e1
  rw [h3] at e2; cases e2
  exact ⟨L, e3, fun p => (e4 p).trans (bhP_iff (X := (· ∈ s)) h2 (fun x => nmd_nmP h4 x) p)⟩
mutual
theorem IsM.run (h : IsM S sets st M) : ∀ t : Tr, AtSet S sets (M.run t) (StT S t)
  | .node g w ks => by
    rw [Mach.run, StT]
    exact IsM.runs h ks (h.start _)
theorem IsM.runs (h : IsM S sets st M) : ∀ (ts : List Tr) {v : Nat} {X : SpS}, AtSet S sets v X → AtSet S sets (M.runs ts v) (StTs S ts X)
  | [], _, _, a => by rw [Mach.runs, StTs]; exact a
  | t :: ts, _, _, a => by
    rw [Mach.runs, StTs]
    exact IsM.runs h ts (h.step a (IsM.run h t))
end
theorem IsM.admits (h : IsM S sets st M) (t : Tr) : M.run t ∈ M.good ↔ Admits S t := by
  obtain ⟨s, h1, h2⟩ := h.run t
  rw [h.good.2]
  unfold Admits
  constructor
  · rintro ⟨s', e, x, hx, hn⟩
    rw [h1] at e; cases e
    exact ⟨x, hx, (nmd_nmP h2 x).mp hn⟩
  · rintro ⟨x, hx, hn⟩
    exact ⟨s, h1, x, hx, (nmd_nmP h2 x).mpr hn⟩
end
end DL

set_option Elab.async false
set_option linter.all false
set_option maxRecDepth 100000
set_option autoImplicit false
set_option maxHeartbeats 4000000
/-! E14: machine_of. -/
namespace DL
open PySem PySem.Spec L2
def lcScope : Expr → Scope
  | .ListComp _ _ s _ => s
  | _ => ⟨.function, [], false, false, []⟩
def asgVal : Stmt → Expr
  | .Assign _ v _ => v
  | _ => .Name "" ⟨0, 0, 0, 0⟩
theorem rng0 (n : Nat) : rng 0 1 n = (List.range n).map nD := by
  unfold rng
  refine List.map_congr_left fun i _ => ?_
  show Dt.int (0 + (i : Int) * 1) = Dt.int i
  congr 1; omega
/-- the starts so far -/
structure StUp (S : Schema) (U sets : List (List Spot)) (Lt : List Str) (starts : List (Str × Nat)) : Prop where
  nd : sets.Nodup
  sub : ∀ s ∈ sets, s ∈ U
  ext : ∃ ext, sets = [[]] ++ ext
  lt : (starts.map (·.1)).Sublist Lt
  all : ∀ l ∈ Lt, (∃ x ∈ starts, x.1 = l) ∨ ∀ p, ¬ Sta S l p
  st : ∀ x ∈ starts, x.2 ≠ 0 ∧ ∃ s, sets[x.2]? = some s ∧ ∀ p, p ∈ s ↔ Sta S x.1 p
section
variable {P : Program} {w : World} {K : PySem.W.Frag} {mg : Str → Option Value} {base : Heap}
def sMachine : FS := fun as R => ∃ S, as = [.val (encS S)] ∧ WfS S ∧ ∀ M, WfM M → (∀ t, M.run t ∈ M.good ↔ Admits S t) → R (encM M) []
theorem d_machine_of (M : Names mg) (D1 : DefOk P w K mg base "places_by_name" 63 sTables) (D2 : DefOk P w K mg base "labels_of" 2 sLabels) (D3 : DefOk P w K mg base "number_of_spots" 1 sNumber) (D4 : DefOk P w K mg base "spots_of_label" 2 sSpotsOf) (D5 : DefOk P w K mg base "steps_among" 2 sAmong) (D6 : DefOk P w K mg base "names_of_spots" 1 sNamesOf) (D7 : DefOk P w K mg base "make_machine" 5 sMake) (h : Has K mg "machine_of" (top 38) ["schema"]) : DefOk P w K mg base "machine_of" 64 sMachine := by
  refine def_D h ["schema", "tables", "sets", "numbers", "starts", "label", "state", "told", "steps", "q", "p", "good", "k", "names", "root"] ⟨rfl, rfl, rfl, by decide +kernel, rfl, by decide +kernel, by decide +kernel⟩ (fun as R ⟨_, e, _⟩ => by subst e; rfl) fun f cdv A outer s H E as R hr hu nd ⟨S, e, wf, q⟩ => ?_
  subst e
  have hz := szl
  have hfew := wf.few
  obtain ⟨U, u⟩ := univ_ex wf
  refine s_cons (t_asg 1 (j_call D1 hr (a_cons (v_val (j_nm 0 rfl (a_nil ⟨_, rfl, nd0, ⟨S, rfl, wf, fun T hT => ?_⟩⟩))))) nd)
  refine s_cons (t_asgN 2 (n_lst (l_cons (j_tup (l_nil (l_nil ?_))))) nd)
  refine s_cons (t_asgN 3 (n_disp1N hu (j_tup (l_nil (j_int ⟨spK [], by rw [spK_d]; rfl, spK_depth _, ⟨_, rfl⟩, ?_⟩)))) nd)
  refine s_cons (t_asgN 4 (n_lst (l_nil ?_)) nd)
  refine s_cons (t_for (i_lst (j_call D2 (hr.mono (by decide)) (a_cons (v_val (j_nm 0 rfl (a_nil ⟨_, rfl, nd0, ⟨S, rfl, wf, fun L asc hL => ⟨_, rfl, fun i ρ => ∃ (sets : List (List Spot)) (starts : List (Str × Nat)) (d5 d6 : Slot), StUp S U sets (L.take i) starts ∧
    ρ = [.val (encS S), .val (.dK T), .own none (.lst (sets.map spotsD)), .own none (.dN (nums sets)), .own none (.lst (starts.map pD)), d5, d6, .un, .un, .un, .un, .un, .un, .un, .un], ⟨[[]], [], _, _, ⟨by simp, fun s h => by simp at h; rw [h]; exact u.nil, ⟨[], rfl⟩, List.nil_sublist _, fun l h => by simp at h, fun x h => by cases h⟩, rfl⟩, fun i d ρ hd ⟨sets, starts, _, _, I, e⟩ => ?_, fun ρ ⟨sets, starts, d5, d6, I, e⟩ => ?_⟩⟩⟩)))))))
  · subst e
    obtain ⟨l, hl, rfl⟩ := mget hd
    have hml := List.mem_of_getElem? hl
    have h99 := u.le I.nd I.sub
    have hLlen : L.length ≤ 10 := by
      have h1 := le_of_sub (ns := lbls S.rules) asc.nodup fun x hx => mem_lbls.mpr ((hL x).mp hx)
      have h2 := lbls_len S.rules
      omega
    have hsl := I.lt.length_le
    rw [List.length_map, List.length_take] at hsl
    refine g_nm 5 ?_ nd
    refine s_cons (t_asg 6 (j_call D3 (hr.mono (by decide)) (a_cons (v_own 2 rfl (a_cons (v_own 3 rfl (a_cons (v_val (j_call D4 (hr.mono (by decide)) (a_cons (v_val (j_nm 0 rfl (a_cons (v_val (j_nm 1 rfl (a_cons (v_val (j_nm 5 rfl (a_nil ⟨_, rfl, nd0, ⟨S, T, l, rfl, wf, hT, fun X ascX hX => (a_nil ⟨_, rfl, nd2, ⟨sets, X, rfl, I.nd, by omega, fun _ => by omega, fun v hv => ?_⟩⟩)⟩⟩)))))))))))))))))) nd)
    have hXU := u.sta l X ascX hX
    have hnil : (addL sets X)[0]? = some [] := by
      obtain ⟨ext, e⟩ := addL_ext (x := X) I.ext
      rw [e]; rfl
    have nd2 := nodup_addL (p := X) I.nd
    have hst : ∀ x ∈ starts, x.2 ≠ 0 ∧ ∃ s, (addL sets X)[x.2]? = some s ∧ ∀ p, p ∈ s ↔ Sta S x.1 p := fun x hx => by
      obtain ⟨h1, s, h2, h3⟩ := I.st x hx
      exact ⟨h1, s, addL_get h2, h3⟩
    refine s_cons (t_ifJ (fun ρ => ∃ (sets : List (List Spot)) (starts : List (Str × Nat)) (d5 d6 : Slot), StUp S U sets (L.take (i + 1)) starts ∧
    ρ = [.val (encS S), .val (.dK T), .own none (.lst (sets.map spotsD)), .own none (.dN (nums sets)), .own none (.lst (starts.map pD)), d5, d6, .un, .un, .un, .un, .un, .un, .un, .un]) _ (jt_cmp (j_nm 6 rfl (v_val (j_int ⟨_, rfl, cd_ne ⟨rfl, rfl⟩⟩)))) (fun h => ?_) (fun h => ?_) fun ρ e => ?_)
    · have hv0 : v ≠ 0 := by
        have := h
        simp at this
        omega
      refine s_cons (t_append 4 rfl ⟨_, rfl⟩ (j_tup (l_cons (j_nm 5 rfl (l_cons (j_nm 6 rfl (l_nil ⟨_, _, rfl, ?_, ?_⟩)))))))
      · rw [List.length_map]; omega
      refine s_nil ⟨addL sets X, starts ++ [(l, v)], .val (.str l), .val (nD v), ⟨nd2, addL_sub I.sub hXU, addL_ext I.ext, ?_, fun l' hl' => ?_, fun x hx => ?_⟩, ?_⟩
      · rw [take_snoc hl, List.map_append]
        exact I.lt.append (List.Sublist.refl _)
      · rw [take_snoc hl] at hl'
        rcases List.mem_append.mp hl' with h1 | h1
        · exact (I.all l' h1).imp (fun ⟨x, h2, h3⟩ => ⟨x, List.mem_append_left _ h2, h3⟩) id
        · have : l' = l := by simpa using h1
          exact .inl ⟨(l, v), by simp, this.symm⟩
      · rcases List.mem_append.mp hx with h1 | h1
        · exact hst x h1
        · have : x = (l, v) := by simpa using h1
          subst this
          exact ⟨hv0, X, hv, hX⟩
      · rw [List.map_append]; rfl
    · have hv0 : v = 0 := by
        have := h
        simp at this
        omega
      subst hv0
      rw [hnil] at hv
      cases hv
      refine s_nil ⟨addL sets [], starts, _, _, ⟨nd2, addL_sub I.sub hXU, addL_ext I.ext, ?_, fun l' hl' => ?_, hst⟩, rfl⟩
      · rw [take_snoc hl]
        exact I.lt.trans (List.sublist_append_left _ _)
      · rw [take_snoc hl] at hl'
        rcases List.mem_append.mp hl' with h1 | h1
        · exact I.all l' h1
        · have : l' = l := by simpa using h1
          subst this
          exact .inr fun p hp => by have := (hX p).mpr hp; simp at this
    exact s_nil e
  · subst e
    rw [List.length_map, List.take_length] at I
    refine s_cons (t_asg 7 (j_call D5 (hr.mono (by decide)) (a_cons (v_val (j_nm 1 rfl (a_cons (v_own 2 rfl (a_cons (v_own 3 rfl (a_nil ⟨_, rfl, nd2, ⟨S, T, U, sets, rfl, wf, hT, u, I.nd, I.sub, fun sets2 st ext nd2 sub2 hok => ?_⟩⟩))))))))) nd)
    have h99 := u.le nd2 sub2
    have hnil : sets2[0]? = some [] := by
      obtain ⟨e1, h1⟩ := ext
      obtain ⟨e2, h2⟩ := I.ext
      rw [h1, h2]; rfl
    have hst : ∀ x ∈ starts, x.2 ≠ 0 ∧ ∃ s, sets2[x.2]? = some s ∧ ∀ p, p ∈ s ↔ Sta S x.1 p := fun x hx => by
      obtain ⟨h1, s, h2, h3⟩ := I.st x hx
      obtain ⟨e1, h4⟩ := ext
      exact ⟨h1, s, by rw [h4, List.getElem?_append_left (lt_of_get h2), h2], h3⟩
    have hstl := I.lt.length_le
    rw [List.length_map] at hstl
    have hLlen : L.length ≤ 10 := by
      have h1 := le_of_sub (ns := lbls S.rules) asc.nodup fun x hx => mem_lbls.mpr ((hL x).mp hx)
      have h2 := lbls_len S.rules
      omega
    have ltsub := I.lt
    have all := I.all
    clear I ext hLlen
    refine s_cons (t_asgComp 8 [("p", 10)] (List.range sets2.length) nD (fun _ => true) (fun p => rowD ((List.range sets2.length).map fun q => getI (valD st (kk p q)))) (i_rng1 M.range (j_blt "len" M.len (by decide +kernel) (a_cons (v_own 2 rfl (a_nil ⟨_, rfl, kd_lenL ⟨_, rfl, ⟨by omega, by rw [List.length_map]; omega⟩, ⟨?_, rfl⟩⟩⟩))))) (by rw [List.length_range]; omega) (fun p hp => turn_id fun _ _ _ _ _ => b_nm 10 (fun _ _ _ _ _ => (j_comp [("q", 9)] (List.range sets2.length) nD (fun _ => true) (fun q => nD (getI (valD st (kk p q)))) (i_rng1 M.range (j_blt "len" M.len (by decide +kernel) (a_cons (v_own 2 rfl (a_nil ⟨_, rfl, kd_lenL ⟨_, rfl, ⟨by omega, by rw [List.length_map]; omega⟩, ⟨?_, rfl⟩⟩⟩))))) (by rw [List.length_range]; omega) (fun q hq => turn_id fun _ _ _ _ _ => b_nm 9 (fun _ _ _ _ _ => (j_ix (v_val (j_nm 7 rfl (j_tup (l_cons (j_nm 10 rfl (l_cons (j_nm 9 rfl (l_nil ⟨_, rfl, xd_dT (by exact hu) (kk p q) rfl (d := nD (getI (valD st (kk p q)))) ?_ ⟨rfl, rfl⟩⟩)))))))))) (by decide) nd) ⟨?_, rfl⟩ nd (blk ["schema", "tables", "sets", "numbers", "starts", "label", "state", "told", "steps", "q", "p", "good", "k", "names", "root"] ⟨.function, [(".0", .local), ("p", .cell), ("range", .globalImplicit), ("len", .globalImplicit), ("sets", .cell), ("told", .cell)], false, false, []⟩ (by decide +kernel)))) (by decide) nd) ?_ nd (blk ["schema", "tables", "sets", "numbers", "starts", "label", "state", "told", "steps", "q", "p", "good", "k", "names", "root"] (defScope (top 38)) (by decide +kernel)))
    · rw [List.length_map]; exact rng0 _
    · rw [List.length_map]; exact rng0 _
    · obtain ⟨v, h1, _⟩ := hok p q (List.mem_range.mp hp) (List.mem_range.mp hq)
      rw [h1]
      rfl
    · rw [filt_true]
      unfold rowD
      rw [List.map_map]
      rfl
    rw [filt_true]
    refine s_freeze 8 rfl ?_
    refine s_cons (t_asgN 11 (n_lst (l_nil ?_)) nd)
    refine s_cons (t_for (i_rng1 M.range (j_blt "len" M.len (by decide +kernel) (a_cons (v_own 2 rfl (a_nil ⟨_, rfl, kd_lenL ⟨_, rfl, ⟨by omega, by rw [List.length_map]; omega⟩, fun i ρ => ∃ (good : List Nat) (d12 d13 : Slot), Asc leN good ∧ (∀ k, k ∈ good ↔ k < i ∧ ∃ s, sets2[k]? = some s ∧ ∃ x ∈ S.roots, Nmd S s x) ∧ good.length ≤ i ∧
      ρ = [.val (encS S), .val (.dK T), .own none (.lst (sets2.map spotsD)), .own none (.dN (nums sets2)), .own none (.lst (starts.map pD)), d5, d6, .val (.dT st), .val (.lst ((List.range sets2.length).map fun p => rowD ((List.range sets2.length).map fun q => getI (valD st (kk p q))))), .un, .un, .own none (.lst (good.map nD)), d12, d13, .un], ⟨[], _, _, List.Pairwise.nil, fun k => by simp, Nat.le_refl _, rfl⟩, fun i d ρ hd ⟨good, _, _, ga, gm, gl, e⟩ => ?_, fun ρ ⟨good, _, _, ga, gm, gl, e⟩ => ?_⟩⟩))))))
    · subst e
      obtain ⟨hi, rfl⟩ := rget hd
      rw [List.length_map] at hi
      have hi : i < sets2.length := by omega
      have hp : (0 : Int) + (i : Int) * 1 = (i : Int) := by omega
      rw [hp]
      have es : sets2[i]? = some sets2[i] := List.getElem?_eq_getElem hi
      generalize sets2[i] = si at es
      have oks := (u.ok si (sub2 si (List.mem_of_getElem? es))).1
      refine g_nm 12 ?_ nd
      refine s_cons (t_asg 13 (j_call D6 (hr.mono (by decide)) (a_cons (v_val (j_nm 1 rfl (a_cons (v_val (j_ix (v_own 2 rfl (j_nm 12 rfl ⟨_, rfl, xd_lst (atI_map es) (a_nil ⟨_, rfl, nd0, ⟨S, T, si, rfl, wf, hT, oks, fun ns hns => ?_⟩⟩)⟩))))))))) nd)
      have e1 : ((S.roots.filter fun _ => true).map fun x => Dt.bl (decide (x ∈ ns))) = (S.roots.map fun x => decide (x ∈ ns)).map Dt.bl := by rw [filt_true, List.map_map]; rfl
      have hroots := wf.roots
      refine s_cons (t_ifJ (fun ρ => ∃ (good : List Nat) (d12 d13 : Slot), Asc leN good ∧ (∀ k, k ∈ good ↔ k < i + 1 ∧ ∃ s, sets2[k]? = some s ∧ ∃ x ∈ S.roots, Nmd S s x) ∧ good.length ≤ i + 1 ∧
      ρ = [.val (encS S), .val (.dK T), .own none (.lst (sets2.map spotsD)), .own none (.dN (nums sets2)), .own none (.lst (starts.map pD)), d5, d6, .val (.dT st), .val (.lst ((List.range sets2.length).map fun p => rowD ((List.range sets2.length).map fun q => getI (valD st (kk p q))))), .un, .un, .own none (.lst (good.map nD)), d12, d13, .un]) ((S.roots.map fun x => decide (x ∈ ns)).any id) (jt_val (j_blt "any" M.any (by decide +kernel) (a_cons (v_val (j_comp [("root", 14)] S.roots Dt.str (fun _ => true) (fun x => .bl (decide (x ∈ ns))) (i_tup (j_ix (v_val (j_nm 0 rfl (j_int ⟨_, rfl, xd_tup rfl ⟨_, rfl, ⟨rfl, rfl⟩⟩⟩))))) (by omega) (fun x hx => turn_id fun _ _ _ _ _ => b_nm 14 (fun _ _ _ _ _ => (j_cmp (j_nm 14 rfl (v_val (j_nm 13 rfl ⟨_, rfl, cd_inKs (by exact hu) ⟨by rw [show (Sum.inr x : Key) = kS x from rfl, marks_some (fun _ _ => kS_inj)], rfl⟩⟩))))) (by decide) nd) (a_nil ⟨_, rfl, ?_⟩) nd (blk ["schema", "tables", "sets", "numbers", "starts", "label", "state", "told", "steps", "q", "p", "good", "k", "names", "root"] (defScope (top 38)) (by decide +kernel))))))) (fun h => ?_) (fun h => ?_) fun ρ e => ?_)
      · rw [e1]
        exact kd_any ⟨_, rfl, ⟨rfl, rfl⟩⟩
      · have hyes : ∃ x ∈ S.roots, Nmd S si x := by
          rw [List.any_eq_true] at h
          obtain ⟨b, hb, hb2⟩ := h
          obtain ⟨x, hx, rfl⟩ := List.mem_map.mp hb
          exact ⟨x, hx, (hns x).mp (of_decide_eq_true hb2)⟩
        refine s_cons (t_append 11 rfl ⟨_, rfl⟩ (j_nm 12 rfl ⟨_, _, rfl, ?_, ?_⟩))
        · rw [List.length_map]; omega
        refine s_nil ⟨good ++ [i], .val (nD i), .val (.dK (marks kS ns)), ?_, fun k => ?_, by rw [List.length_append]; simpa using gl, by rw [List.map_append]; rfl⟩
        · unfold Asc
          rw [List.pairwise_append]
          refine ⟨ga, List.pairwise_singleton _ _, fun a ha b hb => ?_⟩
          have : b = i := by simpa using hb
          subst this
          have := ((gm a).mp ha).1
          exact ⟨by simp [leN]; omega, by omega⟩
        · rw [List.mem_append, gm, List.mem_singleton]
          constructor
          · rintro (⟨h1, h2⟩ | h1)
            · exact ⟨by omega, h2⟩
            · subst h1
              exact ⟨by omega, si, es, hyes⟩
          · rintro ⟨h1, h2⟩
            by_cases e : k = i
            · exact .inr e
            · exact .inl ⟨by omega, h2⟩
      · have hno : ¬ ∃ x ∈ S.roots, Nmd S si x := by
          rintro ⟨x, hx, hn⟩
          rw [List.any_eq_false] at h
          exact h _ (List.mem_map.mpr ⟨x, hx, rfl⟩) (decide_eq_true ((hns x).mpr hn))
        refine s_nil ⟨good, _, _, ga, fun k => ?_, by omega, rfl⟩
        rw [gm]
        constructor
        · rintro ⟨h1, h2⟩
          exact ⟨by omega, h2⟩
        · rintro ⟨h1, s, h2, h3⟩
          by_cases e : k = i
          · subst e
            rw [es] at h2; cases h2
            exact absurd h3 hno
          · exact ⟨by omega, s, h2, h3⟩
      exact s_nil e
    · subst e
      rw [rng_len, List.length_map, Int.toNat_natCast] at gm
      have IM : IsM S sets2 st ⟨starts, mat st sets2.length, good⟩ := ⟨nd2, hnil, h99, rfl, hok, ⟨L, asc, hL, ltsub, all⟩, hst, ga, fun k => (gm k).trans ⟨fun h => h.2, fun h => ⟨by obtain ⟨s, h1, _⟩ := h; exact lt_of_get h1, h⟩⟩⟩
      have hLlen : L.length ≤ 10 := by
        have h1 := le_of_sub (ns := lbls S.rules) asc.nodup fun x hx => mem_lbls.mpr ((hL x).mp hx)
        have h2 := lbls_len S.rules
        omega
      have esteps : ((List.range sets2.length).map fun p => rowD ((List.range sets2.length).map fun q => getI (valD st (kk p q)))) = (mat st sets2.length).map rowD := by
        unfold mat
        rw [List.map_map]
        rfl
      rw [esteps]
      refine s_freeze 4 rfl (s_freeze 11 rfl ?_)
      exact s_cons (t_ret (j_call D7 (hr.mono (by decide)) (a_cons (v_val (j_nm 4 rfl (a_cons (v_val (j_nm 8 rfl (a_cons (v_val (j_nm 11 rfl (a_nil ⟨_, rfl, nd0, ⟨⟨starts, mat st sets2.length, good⟩, rfl, IM.wf wf, by show starts.length ≤ 1000; omega, ⟨_, rfl, q _ (IM.wf wf) IM.admits⟩⟩⟩))))))))))))
end
end DL

set_option Elab.async false
set_option linter.all false
set_option maxRecDepth 100000
set_option autoImplicit false
set_option maxHeartbeats 4000000
/-! E15: prices (plain). -/
namespace DL
open PySem PySem.Spec L2
abbrev Prs := List (Option Nat)
def hasP (pr : Prs) (s : Nat) : Bool := (pr.getD s none).isSome
def okP (o : Option Nat) (v : Nat) : Bool := match o with
  | none => true
  | some z => decide (v < z)
/-- one look at p, q -/
def updP (steps : List (List Nat)) (p q : Nat) (st : Prs × Bool) : Prs × Bool :=
  match st.1.getD p none, st.1.getD q none with
  | some x, some y => if stepOf steps p q ≠ 0 ∧ okP (st.1.getD (stepOf steps p q) none) (x + y) = true then (st.1.set (stepOf steps p q) (some (x + y)), true) else st
  | _, _ => st
def rowP (steps : List (List Nat)) (p : Nat) (st : Prs × Bool) : Prs × Bool := (List.range (steps.length - 1)).foldl (fun st i => updP steps p (i + 1) st) st
def fallP (steps : List (List Nat)) (pr : Prs) : Prs × Bool := (List.range (steps.length - 1)).foldl (fun st i => rowP steps (i + 1) st) (pr, false)
/-- how many lack a price; what the prices are together -/
def lack (pr : Prs) : Nat := (pr.filter Option.isNone).length
def total (pr : Prs) : Nat := (pr.map fun o => o.getD 0).sum
def lt2 (a b : Prs) : Prop := lack a < lack b ∨ (lack a = lack b ∧ total a < total b)
theorem lt2_trans {a b c : Prs} (h1 : lt2 a b) (h2 : lt2 b c) : lt2 a c := by unfold lt2 at *; omega
/-- what a look does -/
structure Fa (steps : List (List Nat)) (st st' : Prs × Bool) : Prop where
  len : st'.1.length = st.1.length
  mono : ∀ s, hasP st.1 s = true → hasP st'.1 s = true
  clos : ∀ Q : Nat → Prop, (∀ p q, Q p → Q q → Q (stepOf steps p q)) → (∀ s, hasP st.1 s = true → Q s) → ∀ s, hasP st'.1 s = true → Q s
  same : st'.2 = false → st' = st
  keep : st.2 = true → st'.2 = true
  less : st' = st ∨ lt2 st'.1 st.1
theorem Fa.refl (steps : List (List Nat)) (st : Prs × Bool) : Fa steps st st := ⟨rfl, fun _ h => h, fun _ _ h => h, fun _ => rfl, fun h => h, .inl rfl⟩
theorem Fa.trans {steps : List (List Nat)} {a b c : Prs × Bool} (h1 : Fa steps a b) (h2 : Fa steps b c) : Fa steps a c := by
  refine ⟨h2.len.trans h1.len, fun s h => h2.mono s (h1.mono s h), fun Q hQ h => h2.clos Q hQ (h1.clos Q hQ h), fun h => ?_, fun h => h2.keep (h1.keep h), ?_⟩
  · have e := h2.same h
    rw [e] at h ⊢
    exact h1.same h
  · rcases h1.less with e1 | l1
    · rw [e1] at h2; exact h2.less
    · rcases h2.less with e2 | l2
      · rw [e2]; exact .inr l1
      · exact .inr (lt2_trans l2 l1)
theorem getD_set (pr : Prs) (a s : Nat) (v : Option Nat) : (pr.set a v).getD s none = if a = s ∧ a < pr.length then v else pr.getD s none := by
  rw [List.getD_eq_getElem?_getD, List.getD_eq_getElem?_getD, List.getElem?_set]
  by_cases e : a = s
  · subst e
    by_cases h : a < pr.length
    · simp [h]
    · simp [h]
  · simp [e]
theorem set_less : ∀ (pr : Prs) (a v : Nat), a < pr.length → (pr.getD a none = none ∨ ∃ z, pr.getD a none = some z ∧ v < z) → lt2 (pr.set a (some v)) pr
  | [], a, v, h, _ => absurd h (by simp)
  | o :: pr, 0, v, h, hv => by
    rcases hv with e | ⟨z, e, hz⟩
    · have : o = none := by simpa using e
      subst this
      left
      simp [lack, List.filter_cons]
    · have : o = some z := by simpa using e
      subst this
      right
      simp [lack, total, List.filter_cons]
      omega
  | o :: pr, a + 1, v, h, hv => by
    have ih := set_less pr a v (by simpa using h) (by simpa using hv)
    rw [List.set_cons_succ]
    unfold lt2 lack total at *
    rw [List.filter_cons, List.filter_cons, List.map_cons, List.map_cons, List.sum_cons, List.sum_cons]
    split <;> simp only [List.length_cons] at * <;> omega
theorem updP_fa {steps : List (List Nat)} {p q : Nat} {st : Prs × Bool} (hl : stepOf steps p q < st.1.length) : Fa steps st (updP steps p q st) := by
  unfold updP
  split
  · rename_i x y ex ey
    split
    · rename_i h
      obtain ⟨h0, hz⟩ := h
      have hset := getD_set st.1 (stepOf steps p q)
      refine ⟨by simp, fun s hs => ?_, fun Q hQ hq s hs => ?_, (fun h => by cases h), fun _ => rfl, .inr (set_less _ _ _ hl ?_)⟩
      · unfold hasP at *
        show ((st.1.set _ _).getD s none).isSome = true
        rw [hset]
        split
        · rfl
        · exact hs
      · unfold hasP at hs
        have hs : ((st.1.set (stepOf steps p q) (some (x + y))).getD s none).isSome = true := hs
        rw [hset] at hs
        split at hs
        · rename_i e
          rw [← e.1]
          exact hQ p q (hq p (by unfold hasP; rw [ex]; rfl)) (hq q (by unfold hasP; rw [ey]; rfl))
        · exact hq s hs
      · cases e : st.1.getD (stepOf steps p q) none with
        | none => exact .inl rfl
        | some z => rw [e] at hz; exact .inr ⟨z, rfl, of_decide_eq_true hz⟩
    · exact .refl _ _
  · exact .refl _ _
theorem fold_fa {steps : List (List Nat)} {n : Nat} {f : Prs × Bool → Nat → Prs × Bool} (hf : ∀ st i, st.1.length = n → Fa steps st (f st i)) : ∀ (l : List Nat) (st : Prs × Bool), st.1.length = n → Fa steps st (l.foldl f st)
  | [], st, _ => .refl _ _
  | i :: l, st, h => by
    have h1 := hf st i h
    exact h1.trans (fold_fa hf l (f st i) (h1.len.trans h))
/-- a fold that ends without a change looked at all of it in vain -/
theorem fold_vain {steps : List (List Nat)} {n : Nat} {f : Prs × Bool → Nat → Prs × Bool} (hf : ∀ st i, st.1.length = n → Fa steps st (f st i)) : ∀ (l : List Nat) (st : Prs × Bool), st.1.length = n → (l.foldl f st).2 = false → ∀ i ∈ l, f st i = st
  | [], _, _, _, _, h => absurd h (by simp)
  | j :: l, st, hl, h, i, hi => by
    have h1 := hf st j hl
    have h2 := fold_fa hf l (f st j) (h1.len.trans hl)
    have hj : (f st j).2 = false := by
      cases e : (f st j).2 with
      | false => rfl
      | true =>
        have : ((j :: l).foldl f st).2 = true := h2.keep e
        rw [this] at h; cases h
    have ej := h1.same hj
    rcases List.mem_cons.mp hi with e | hi
    · subst e; exact ej
    · have h : (l.foldl f (f st j)).2 = false := h
      rw [ej] at h
      exact fold_vain hf l st hl h i hi
theorem step_lt {steps : List (List Nat)} (ok : StepsOk steps) (p q : Nat) : stepOf steps p q < steps.length := by
  by_cases hp : p < steps.length
  · by_cases hq : q < steps.length
    · obtain ⟨r, _, m, _, m2⟩ := step_at ok.rows hp hq
      exact ok.lt r m _ m2
    · have : stepOf steps p q = 0 := by
        unfold stepOf
        rw [List.getD_eq_getElem?_getD, List.getElem?_eq_none (by
          rw [List.getD_eq_getElem?_getD, List.getElem?_eq_getElem hp, Option.getD_some, ok.rows _ (List.getElem_mem hp)]; omega)]
        rfl
      rw [this]
      exact ok.n1
  · have : stepOf steps p q = 0 := by
      unfold stepOf
      have e : steps.getD p [] = [] := by
        rw [List.getD_eq_getElem?_getD, List.getElem?_eq_none (by omega)]; rfl
      rw [e]; rfl
    rw [this]
    exact ok.n1
section
variable {steps : List (List Nat)} (ok : StepsOk steps)
include ok
theorem rowP_fa (p : Nat) (st : Prs × Bool) (h : st.1.length = steps.length) : Fa steps st (rowP steps p st) :=
  fold_fa (n := steps.length) (fun st i h => updP_fa (by rw [h]; exact step_lt ok _ _)) _ st h
theorem fallP_fa (pr : Prs) (h : pr.length = steps.length) : Fa steps (pr, false) (fallP steps pr) :=
  fold_fa (n := steps.length) (fun st i h => rowP_fa ok _ st h) _ (pr, false) h
theorem fallP_vain {pr : Prs} (h : pr.length = steps.length) (hf : (fallP steps pr).2 = false) {p q : Nat} (hp : 1 ≤ p ∧ p < steps.length) (hq : 1 ≤ q ∧ q < steps.length) (h1 : hasP pr p = true) (h2 : hasP pr q = true) (h0 : stepOf steps p q ≠ 0) : hasP pr (stepOf steps p q) = true := by
  have e1 := fold_vain (n := steps.length) (fun st i h => rowP_fa ok (i + 1) st h) _ (pr, false) h hf (p - 1) (List.mem_range.mpr (by omega))
  rw [show p - 1 + 1 = p by omega] at e1
  have e2 := fold_vain (n := steps.length) (f := fun st i => updP steps p (i + 1) st) (fun st i h => updP_fa (by rw [h]; exact step_lt ok _ _)) (List.range (steps.length - 1)) (pr, false) h (by
    have : (rowP steps p (pr, false)).2 = false := by rw [e1]
    exact this) (q - 1) (List.mem_range.mpr (by omega))
  rw [show q - 1 + 1 = q by omega] at e2
  unfold hasP at h1 h2 ⊢
  cases ex : pr.getD p none with
  | none => rw [ex] at h1; cases h1
  | some x =>
    cases ey : pr.getD q none with
    | none => rw [ey] at h2; cases h2
    | some y =>
      cases ez : pr.getD (stepOf steps p q) none with
      | some z => rfl
      | none =>
        unfold updP at e2
        simp only [ex, ey, ez] at e2
        rw [if_pos ⟨h0, show okP none (x + y) = true from rfl⟩] at e2
        exact absurd (congrArg Prod.snd e2) (by simp)
/-- the loop ends -/
def Halts (steps : List (List Nat)) : Nat → Prs → Prop
  | 0, _ => False
  | m + 1, pr => (fallP steps pr).2 = true → Halts steps m (fallP steps pr).1
theorem halts_ex : ∀ (a b : Nat) (pr : Prs), pr.length = steps.length → lack pr = a → total pr = b → ∃ m, Halts steps m pr := by
  intro a
  induction a using Nat.strongRecOn with
  | _ a iha =>
    intro b
    induction b using Nat.strongRecOn with
    | _ b ihb =>
      intro pr hl ha hb
      cases hf : (fallP steps pr).2 with
      | false => exact ⟨1, fun h => by rw [hf] at h; cases h⟩
      | true =>
        have fa := fallP_fa ok pr hl
        have hl' : (fallP steps pr).1.length = steps.length := fa.len.trans hl
        have lt : lt2 (fallP steps pr).1 pr := fa.less.resolve_left fun e => by rw [e] at hf; cases hf
        have : ∃ m, Halts steps m (fallP steps pr).1 := by
          rcases lt with h | ⟨h1, h2⟩
          · exact iha _ (by omega) _ _ hl' rfl rfl
          · exact ihb _ (by omega) _ hl' (by omega) rfl
        obtain ⟨m, hm⟩ := this
        exact ⟨m + 1, fun _ => hm⟩
end
/-! ### found states -/
/-- the starting prices: only of starts, of each of them -/
structure Started (M : Mach) (pr : Prs) : Prop where
  len : pr.length = M.n
  only : ∀ s, hasP pr s = true → ∃ x ∈ M.starts, x.2 = s
  all : ∀ x ∈ M.starts, hasP pr x.2 = true
/-- .. at the end -/
structure Priced (M : Mach) (pr : Prs) : Prop where
  len : pr.length = M.n
  only : ∀ s, hasP pr s = true → ∃ t, M.run t = s
  all : ∀ t, M.run t ≠ 0 → hasP pr (M.run t) = true
/-- while they fall -/
structure Pricing (M : Mach) (pr : Prs) : Prop where
  len : pr.length = M.n
  only : ∀ s, hasP pr s = true → ∃ t, M.run t = s
  starts : ∀ x ∈ M.starts, hasP pr x.2 = true
theorem runs_app (M : Mach) : ∀ (ts us : List Tr) (s : Nat), M.runs (ts ++ us) s = M.runs us (M.runs ts s)
  | [], us, s => by rw [List.nil_append, Mach.runs]
  | t :: ts, us, s => by rw [List.cons_append, Mach.runs, Mach.runs, runs_app M ts us]
theorem run_step (M : Mach) (t u : Tr) : ∃ t', M.run t' = M.δ (M.run t) (M.run u) := by
  obtain ⟨g, w, ks⟩ := t
  refine ⟨.node g w (ks ++ [u]), ?_⟩
  rw [Mach.run, Mach.run, runs_app, Mach.runs, Mach.runs]
  rfl
theorem lab_leaf (l : Str) : lab (.node l "" []) = l := by
  show (if ("" : Str) = "" then l else l ++ ":") = l
  rw [if_pos rfl]
theorem run_leaf (M : Mach) (l : Str) : M.run (.node l "" []) = M.start l := by rw [Mach.run, Mach.runs, lab_leaf]
theorem Started.pricing {M : Mach} {pr : Prs} (wf : WfM M) (h : Started M pr) : Pricing M pr :=
  ⟨h.len, fun s hs => by
    obtain ⟨x, hx, rfl⟩ := h.only s hs
    exact ⟨.node x.1 "" [], by rw [run_leaf, start_some wf.starts.nd hx]⟩, h.all⟩
theorem Pricing.fall {M : Mach} {pr : Prs} (wf : WfM M) (h : Pricing M pr) : Pricing M (fallP M.steps pr).1 := by
  have fa := fallP_fa wf.steps pr h.len
  refine ⟨fa.len.trans h.len, fa.clos _ (fun p q ⟨t, e1⟩ ⟨u, e2⟩ => ?_) h.only, fun x hx => fa.mono _ (h.starts x hx)⟩
  obtain ⟨t', e⟩ := run_step M t u
  exact ⟨t', by rw [e, e1, e2]; rfl⟩
mutual
theorem Pricing.alls {M : Mach} {pr : Prs} (wf : WfM M) (h : Pricing M pr) (hf : (fallP M.steps pr).2 = false) : ∀ t : Tr, M.run t ≠ 0 → hasP pr (M.run t) = true
  | .node g w ks, h0 => by
    rw [Mach.run] at h0 ⊢
    refine Pricing.allss wf h hf ks _ (fun h1 => ?_) h0
    by_cases hx : ∃ x ∈ M.starts, x.1 = lab (.node g w ks)
    · obtain ⟨x, hx, e⟩ := hx
      rw [← e, start_some wf.starts.nd hx]
      exact h.starts x hx
    · exact absurd (start_none fun x h1 e => hx ⟨x, h1, e⟩) h1
theorem Pricing.allss {M : Mach} {pr : Prs} (wf : WfM M) (h : Pricing M pr) (hf : (fallP M.steps pr).2 = false) : ∀ (ts : List Tr) (s : Nat), (s ≠ 0 → hasP pr s = true) → M.runs ts s ≠ 0 → hasP pr (M.runs ts s) = true
  | [], s, hs, h0 => by rw [Mach.runs] at h0 ⊢; exact hs h0
  | t :: ts, s, hs, h0 => by
    rw [Mach.runs] at h0 ⊢
    refine Pricing.allss wf h hf ts _ (fun h1 => ?_) h0
    have bd : ∀ s, hasP pr s = true → s < M.steps.length := fun s hs => by
      by_cases q : s < pr.length
      · rw [h.len] at q; exact q
      · unfold hasP at hs
        rw [List.getD_eq_getElem?_getD, List.getElem?_eq_none (by omega)] at hs
        cases hs
    have s0 : s ≠ 0 := fun e => by subst e; exact h1 (wf.steps.dead _).1
    have t0 : M.run t ≠ 0 := fun e => by rw [e] at h1; exact h1 (wf.steps.dead _).2
    have hs1 := hs s0
    have ht1 := Pricing.alls wf h hf t t0
    exact fallP_vain wf.steps h.len hf ⟨by omega, bd _ hs1⟩ ⟨by omega, bd _ ht1⟩ hs1 ht1 h1
end
theorem Pricing.done {M : Mach} {pr : Prs} (wf : WfM M) (h : Pricing M pr) (hf : (fallP M.steps pr).2 = false) : Priced M pr := ⟨h.len, h.only, h.alls wf hf⟩
end DL

set_option Elab.async false
set_option linter.all false
set_option maxRecDepth 100000
set_option autoImplicit false
set_option maxHeartbeats 4000000
/-! E16: price_of_start, prices_fall. -/
namespace DL
open PySem PySem.Spec L2
section
variable {X : Cx} {ρ : Env} {pos : Pos} {a b : Expr}
theorem jwb_orT {rest : List Expr} (h : JT X a ρ (Pu true ρ)) : JW X (.BoolOp .Or (a :: b :: rest) pos) ρ (Pu true ρ) :=
  jw_or (h.imp fun c ρ' ⟨e1, e2⟩ => by subst e1 e2; exact ⟨(fun h => by cases h), fun _ => ⟨rfl, rfl⟩⟩)
end
def optD : Option Nat → Dt
  | none => .non
  | some n => nD n
theorem isNon_opt (o : Option Nat) : isNon (optD o) = o.isNone := by cases o <;> rfl
theorem opt_at {pr : Prs} {i : Nat} (h : i < pr.length) : pr[i]? = some (pr.getD i none) := by
  rw [List.getD_eq_getElem?_getD, List.getElem?_eq_getElem h]; rfl
theorem updP_some {steps : List (List Nat)} {p q : Nat} {st : Prs × Bool} {x y : Nat} (ex : st.1.getD p none = some x) (ey : st.1.getD q none = some y) :
    updP steps p q st = if stepOf steps p q ≠ 0 ∧ okP (st.1.getD (stepOf steps p q) none) (x + y) = true then (st.1.set (stepOf steps p q) (some (x + y)), true) else st := by
  unfold updP
  simp only [ex, ey]
theorem updP_none {steps : List (List Nat)} {p q : Nat} {st : Prs × Bool} (h : st.1.getD p none = none ∨ st.1.getD q none = none ∨ stepOf steps p q = 0) : updP steps p q st = st := by
  unfold updP
  cases ex : st.1.getD p none with
  | none => rfl
  | some x =>
    cases ey : st.1.getD q none with
    | none => rfl
    | some y =>
      have : stepOf steps p q = 0 := by
        rcases h with h | h | h
        · rw [ex] at h; cases h
        · rw [ey] at h; cases h
        · exact h
      show (if stepOf steps p q ≠ 0 ∧ _ then _ else st) = st
      rw [if_neg fun z => z.1 this]
theorem map_set' {pr : Prs} {i : Nat} {o : Option Nat} : (pr.map optD).set i (optD o) = (pr.set i o).map optD := by rw [List.map_set]
theorem ixN_nat {n i : Nat} (h : i < n) : ixN n (i : Int) = some i := by
  unfold ixN
  simp
  omega
section
variable {P : Program} {w : World} {K : PySem.W.Frag} {mg : Str → Option Value} {base : Heap}
def sPrice : FS := fun as R => ∃ l, as = [.val (.str l)] ∧ isLab l ∧ ∀ n : Nat, R (nD n) []
theorem lab_len {l : Str} (h : isLab l) : 1 ≤ l.length ∧ l.length ≤ 9 := by
  rcases h with q | ⟨t, q, e⟩
  · have := tag_len q; omega
  · have := tag_len q; rw [e, len_colon]; omega
theorem d_price_of_start (M : Names mg) (h : Has K mg "price_of_start" (top 40) ["label"]) : DefOk P w K mg base "price_of_start" 1 sPrice := by
  refine def_D h ["label"] ⟨rfl, rfl, rfl, by decide +kernel, rfl, by decide +kernel, by decide +kernel⟩ (fun as R ⟨_, e, _⟩ => by subst e; rfl) fun f cdv A outer s H E as R hr hu nd ⟨l, e, hl, q⟩ => ?_
  subst e
  have hlen := lab_len hl
  obtain ⟨m, c, em⟩ := snoc_of hlen.1
  have hat : L2.atI l.cps.toList (-1 : Int) = some c := by
    have : L2.atI (m ++ [c]) (-1 : Int) = some c := by
      have e : ixN (m ++ [c]).length (-1) = some m.length := by
        unfold ixN
        simp
        omega
      unfold L2.atI
      rw [e]
      simp
    rw [em]; exact this
  refine s_cons (t_ifB _ (jt_cmp (j_ix (v_val (j_nm 0 rfl (j_neg (j_int ⟨_, rfl, ⟨_, rfl, xd_str (small9 (by omega)) hat (v_val (j_str ⟨_, rfl, cd_eqS ⟨rfl, rfl⟩⟩))⟩⟩)))))) (fun h => ?_) (fun h => ?_))
  · exact s_cons (t_ret (j_bin (j_blt "len" M.len (by decide +kernel) (a_cons (v_val (j_nm 0 rfl (a_nil ⟨_, rfl, kd_lenS (small9 (by omega)) (j_int (bd_add ⟨_, rfl, q (l.length + 3)⟩))⟩)))))))
  refine s_nil ?_
  exact s_cons (t_ret (j_bin (j_blt "len" M.len (by decide +kernel) (a_cons (v_val (j_nm 0 rfl (a_nil ⟨_, rfl, kd_lenS (small9 (by omega)) (j_int (bd_add ⟨_, rfl, q (l.length + 2)⟩))⟩)))))))
def sFall : FS := fun as R => ∃ steps pr hs, as = [.val (.lst (steps.map rowD)), .own (.lst (pr.map optD)), .own (.lst hs)] ∧ StepsOk steps ∧ pr.length = steps.length ∧ hs.length = steps.length ∧
  ∀ hs' : List Dt, hs'.length = steps.length → R (.bl (fallP steps pr).2) [.lst ((fallP steps pr).1.map optD), .lst hs']
theorem d_prices_fall (M : Names mg) (h : Has K mg "prices_fall" (top 42) ["steps", "prices", "hows"]) : DefOk P w K mg base "prices_fall" 1 sFall := by
  refine def_D h ["steps", "prices", "hows", "fell", "p", "q", "after", "signs"] ⟨rfl, rfl, rfl, by decide +kernel, rfl, by decide +kernel, by decide +kernel⟩ (fun as R ⟨_, _, _, e, _⟩ => by subst e; rfl) fun f cdv A outer s H E as R hr hu nd ⟨steps, pr, hs, e, ok, hpr, hhs, q⟩ => ?_
  subst e
  have hz := szl
  have n1 := ok.n1
  have n100 := ok.n100
  refine s_cons (t_asg 3 (j_bl ?_) nd)
  refine s_cons (t_for (i_rng2 M.range (j_int (j_blt "len" M.len (by decide +kernel) (a_cons (v_val (j_nm 0 rfl (a_nil ⟨_, rfl, kd_lenL ⟨_, _, rfl, rfl, ⟨by omega, by omega, by omega, by rw [List.length_map]; omega⟩, fun i ρ => ∃ (st : Prs × Bool) (hs : List Dt) (d4 d5 d6 d7 : Slot), st = ((List.range (steps.length - 1)).take i).foldl (fun st i => rowP steps (i + 1) st) (pr, false) ∧ hs.length = steps.length ∧
    ρ = [.val (.lst (steps.map rowD)), .own (some 0) (.lst (st.1.map optD)), .own (some 1) (.lst hs), .val (.bl st.2), d4, d5, d6, d7], ⟨(pr, false), hs, _, _, _, _, by simp, hhs, rfl⟩, fun i d ρ hd ⟨st, hs, _, _, _, _, est, hhs, e⟩ => ?_, fun ρ ⟨st, hs, _, _, _, _, est, hhs, e⟩ => ?_⟩⟩))))))))
  · subst e
    obtain ⟨hi, rfl⟩ := rget hd
    rw [List.length_map] at hi
    have hi : i < steps.length - 1 := by omega
    have hp : (1 : Int) + (i : Int) * 1 = ((i + 1 : Nat) : Int) := by omega
    rw [hp]
    have hri : (List.range (steps.length - 1))[i]? = some i := by rw [List.getElem?_range hi]
    have hlen : st.1.length = steps.length := by
      rw [est]
      exact (fold_fa (n := steps.length) (fun st i h => rowP_fa ok (i + 1) st h) _ (pr, false) hpr).len.trans hpr
    refine g_nm 4 ?_ nd
    refine s_cons (t_for (i_rng2 M.range (j_int (j_blt "len" M.len (by decide +kernel) (a_cons (v_val (j_nm 0 rfl (a_nil ⟨_, rfl, kd_lenL ⟨_, _, rfl, rfl, ⟨by omega, by omega, by omega, by rw [List.length_map]; omega⟩, fun j ρ => ∃ (st2 : Prs × Bool) (hs : List Dt) (d5 d6 d7 : Slot), st2 = ((List.range (steps.length - 1)).take j).foldl (fun st j => updP steps (i + 1) (j + 1) st) st ∧ hs.length = steps.length ∧
      ρ = [.val (.lst (steps.map rowD)), .own (some 0) (.lst (st2.1.map optD)), .own (some 1) (.lst hs), .val (.bl st2.2), .val (nD (i + 1)), d5, d6, d7], ⟨st, hs, _, _, _, by simp, hhs, rfl⟩, fun j d ρ hd ⟨st2, hs, _, _, d7, est2, hhs, e⟩ => ?_, fun ρ ⟨st2, hs, _, _, _, est2, hhs, e⟩ => ?_⟩⟩))))))))
    · subst e
      obtain ⟨hj, rfl⟩ := rget hd
      rw [List.length_map] at hj
      have hj : j < steps.length - 1 := by omega
      have hp : (1 : Int) + (j : Int) * 1 = ((j + 1 : Nat) : Int) := by omega
      rw [hp]
      have hrj : (List.range (steps.length - 1))[j]? = some j := by rw [List.getElem?_range hj]
      have hlen2 : st2.1.length = steps.length := by
        rw [est2]
        exact (fold_fa (n := steps.length) (f := fun st j => updP steps (i + 1) (j + 1) st) (fun st k h => updP_fa (by rw [h]; exact step_lt ok _ _)) _ st hlen).len.trans hlen
      obtain ⟨r, e1, m1, e2, m2⟩ := step_at ok.rows (p := i + 1) (q := j + 1) (by omega) (by omega)
      have hlt := step_lt ok (i + 1) (j + 1)
      have enext : updP steps (i + 1) (j + 1) st2 = ((List.range (steps.length - 1)).take (j + 1)).foldl (fun st j => updP steps (i + 1) (j + 1) st) st := by
        rw [fold_take hrj, ← est2]
      have ep := atI_map (f := optD) (opt_at (pr := st2.1) (i := i + 1) (by omega))
      have eq := atI_map (f := optD) (opt_at (pr := st2.1) (i := j + 1) (by omega))
      have ea := atI_map (f := optD) (opt_at (pr := st2.1) (i := stepOf steps (i + 1) (j + 1)) (by omega))
      clear est2 hri est
      refine g_nm 5 ?_ nd
      refine s_cons (t_asg 6 (j_ix (v_val (j_ix (v_val (j_nm 0 rfl (j_nm 4 rfl ⟨_, rfl, xd_lst (atI_map e1) (j_nm 5 rfl ⟨_, rfl, xd_lst (atI_map e2) ?_⟩)⟩)))))) nd)
      refine s_cons (t_ifJ (fun ρ => ∃ (hs : List Dt) (d7 : Slot), hs.length = steps.length ∧ ρ = [.val (.lst (steps.map rowD)), .own (some 0) (.lst ((updP steps (i + 1) (j + 1) st2).1.map optD)), .own (some 1) (.lst hs), .val (.bl (updP steps (i + 1) (j + 1) st2).2), .val (nD (i + 1)), .val (nD (j + 1)), .val (nD (stepOf steps (i + 1) (j + 1))), d7]) _ (jtb_bool (jwb_and (jt_cmp (j_nm 6 rfl (v_val (j_int ⟨_, rfl, cd_ne ⟨rfl, rfl⟩⟩)))) fun h => (jwb_and (jt_cmp (j_ix (v_own 1 rfl (j_nm 4 rfl ⟨_, rfl, xd_lst ep (v_val (j_non ⟨_, rfl, cd_notN ⟨rfl, rfl⟩⟩))⟩)))) fun h => (jwb_and1 (jt_cmp (j_ix (v_own 1 rfl (j_nm 5 rfl ⟨_, rfl, xd_lst eq (v_val (j_non ⟨_, rfl, cd_notN ⟨rfl, rfl⟩⟩))⟩))))))) ⟨rfl, rfl⟩) (fun h => ?_) (fun h => ?_) fun ρ ⟨hs, _, hhs, e⟩ => ?_)
      · rw [isNon_opt, isNon_opt] at h
        simp only [Bool.and_eq_true, Bool.not_eq_true', decide_eq_false_iff_not] at h
        obtain ⟨ha0, hp1, hq1⟩ := h
        have ha0 : stepOf steps (i + 1) (j + 1) ≠ 0 := by omega
        cases ex : st2.1.getD (i + 1) none with
        | none => rw [ex] at hp1; cases hp1
        | some x =>
        cases ey : st2.1.getD (j + 1) none with
        | none => rw [ey] at hq1; cases hq1
        | some y =>
        rw [ex] at ep
        rw [ey] at eq
        have eu := updP_some (steps := steps) ex ey
        refine s_cons (t_asg 7 (j_bin (j_ix (v_own 1 rfl (j_nm 4 rfl ⟨_, rfl, xd_lst ep (j_ix (v_own 1 rfl (j_nm 5 rfl ⟨_, rfl, xd_lst eq (bd_add ?_)⟩)))⟩)))) nd)
        cases ez : st2.1.getD (stepOf steps (i + 1) (j + 1)) none with
        | none =>
          rw [ez] at ea
          rw [ez, if_pos ⟨ha0, rfl⟩] at eu
          refine s_cons (t_ifB true (jtb_bool (jwb_orT (jt_cmp (j_ix (v_own 1 rfl (j_nm 6 rfl ⟨_, rfl, xd_lst ea (v_val (j_non ⟨_, rfl, cd_isN ⟨rfl, rfl⟩⟩))⟩))))) ⟨rfl, rfl⟩) (fun h => ?_) (fun h => (by cases h)))
          refine s_cons (t_sub 1 (j_nm 7 rfl ⟨_, _, rfl, (j_nm 6 rfl ⟨_, _, rfl, wd_lst (ixN_nat (by rw [List.length_map]; omega)) ?_⟩)⟩))
          refine s_cons (t_sub 2 (j_tup (l_cons (j_nm 4 rfl (l_cons (j_nm 5 rfl (l_nil ⟨_, _, rfl, (j_nm 6 rfl ⟨_, _, rfl, wd_lst (ixN_nat (by omega)) ?_⟩)⟩)))))))
          refine s_cons (t_asg 3 (j_bl ?_) nd)
          refine s_nil (s_nil ⟨hs.set (stepOf steps (i + 1) (j + 1)) (.tup [nD (i + 1), nD (j + 1)]), .val (nD (x + y)), ?_, ?_⟩)
          rotate_left
          · rw [eu]
            show _ = [Slot.val (.lst (steps.map rowD)), .own (some 0) (.lst ((st2.1.set (stepOf steps (i + 1) (j + 1)) (some (x + y))).map optD)), _, _, _, _, _, _]
            rw [← map_set']
            rfl
          · rw [List.length_set]; exact hhs
        | some z =>
          rw [ez] at ea
          rw [ez] at eu
          refine s_cons (t_ifB (false || decide (((x : Int) + (y : Int)) < (z : Int))) (jtb_bool (jwb_or (jt_cmp (j_ix (v_own 1 rfl (j_nm 6 rfl ⟨_, rfl, xd_lst ea (v_val (j_non ⟨_, rfl, cd_isN ⟨rfl, rfl⟩⟩))⟩)))) fun h => (jwb_or1 (jt_cmp (j_nm 7 rfl (v_val (j_ix (v_own 1 rfl (j_nm 6 rfl ⟨_, rfl, xd_lst ea ⟨_, rfl, cd_lt ⟨rfl, rfl⟩⟩⟩)))))))) ⟨rfl, rfl⟩) (fun h => ?_) (fun h => ?_))
          · have hlt2 : x + y < z := by simp at h; omega
            rw [if_pos ⟨ha0, show okP (some z) (x + y) = true from decide_eq_true hlt2⟩] at eu
            refine s_cons (t_sub 1 (j_nm 7 rfl ⟨_, _, rfl, (j_nm 6 rfl ⟨_, _, rfl, wd_lst (ixN_nat (by rw [List.length_map]; omega)) ?_⟩)⟩))
            refine s_cons (t_sub 2 (j_tup (l_cons (j_nm 4 rfl (l_cons (j_nm 5 rfl (l_nil ⟨_, _, rfl, (j_nm 6 rfl ⟨_, _, rfl, wd_lst (ixN_nat (by omega)) ?_⟩)⟩)))))))
            refine s_cons (t_asg 3 (j_bl ?_) nd)
            refine s_nil (s_nil ⟨hs.set (stepOf steps (i + 1) (j + 1)) (.tup [nD (i + 1), nD (j + 1)]), .val (nD (x + y)), ?_, ?_⟩)
            rotate_left
            · rw [eu]
              show _ = [Slot.val (.lst (steps.map rowD)), .own (some 0) (.lst ((st2.1.set (stepOf steps (i + 1) (j + 1)) (some (x + y))).map optD)), _, _, _, _, _, _]
              rw [← map_set']
              rfl
            · rw [List.length_set]; exact hhs
          · have hlt2 : ¬ x + y < z := by simp at h; omega
            rw [if_neg fun q => hlt2 (of_decide_eq_true (show decide (x + y < z) = true from q.2))] at eu
            rw [eu]
            exact s_nil (s_nil ⟨hs, .val (nD (x + y)), hhs, rfl⟩)
      · have eu : updP steps (i + 1) (j + 1) st2 = st2 := by
          refine updP_none ?_
          rw [isNon_opt, isNon_opt] at h
          cases ex : st2.1.getD (i + 1) none with
          | none => exact .inl rfl
          | some x =>
            cases ey : st2.1.getD (j + 1) none with
            | none => exact .inr (.inl rfl)
            | some y =>
              rw [ex, ey] at h
              right; right
              simp at h
              omega
        rw [eu]
        exact s_nil ⟨hs, d7, hhs, rfl⟩
      subst e
      exact s_nil ⟨_, hs, _, _, _, enext, hhs, rfl⟩
    · subst e
      rw [rng_len, List.length_map] at est2
      have e1 : st2 = rowP steps (i + 1) st := by
        rw [est2]
        unfold rowP
        rw [List.take_of_length_le (by rw [List.length_range]; omega)]
      refine s_nil ⟨st2, hs, _, _, _, _, ?_, hhs, rfl⟩
      rw [fold_take hri, ← est, e1]
  · subst e
    rw [rng_len, List.length_map] at est
    have e1 : st = fallP steps pr := by
      rw [est]
      unfold fallP
      rw [List.take_of_length_le (by rw [List.length_range]; omega)]
    subst e1
    exact s_cons (t_ret (j_nm 3 rfl ⟨_, rfl, q hs hhs⟩))
end
end DL

set_option Elab.async false
set_option linter.all false
set_option maxRecDepth 100000
set_option autoImplicit false
set_option maxHeartbeats 4000000
/-! E17: started_prices, priced (two lists in a tuple, written in place: by heaps), prices_of, found_states. -/
namespace DL
open PySem PySem.Spec L2
section
variable {X : Cx} {ρ : Env} {pos : Pos} {st : Stmt} {rest : List Stmt}
/-- one statement by data, the rest by heaps -/
theorem rs_step {C : Run} {F H : Hp} {σ : L2.St} {E : Ends} (r : Rep X.prog X.w C F ρ σ H) (M : Env → Prop) (h : J1 X st ρ { nx := M, rt := fun _ _ => False }) (k : ∀ ρ' σ' F' H', M ρ' → Same F F' → Rep X.prog X.w C F' ρ' σ' H' → RS X rest σ' H' E) : RS X (st :: rest) σ H E :=
  rs_of (pss_cons r1_ps rs_pss) (h C F σ H _ r ⟨fun ρ' σ' F' H' q e r' => k ρ' σ' F' H' q e r', fun _ _ _ _ _ _ z => z.elim⟩)
end
/-- a tuple of two lists of ours -/
structure PS0 (P : Program) (w : World) (F H F' H' : Hp) (t a b : Addr) (pr : Prs) (hs : List Dt) : Prop where
  sF : Same F F'
  part : Same F' H'
  fresh : ∀ x, F x = none → H x ≠ none → F' x = none
  keep : ∀ x u, H x = some u → H' x = some u
  ha : H a = none
  hb : H b = none
  ht : H t = none
  fa : F' a = none
  fb : F' b = none
  ft : F' t = none
  ne : a ≠ b
  tup : H' t = some (.tup [.ref a, .ref b])
  pa : Top P w F' H' (.lst (pr.map optD)) a
  pb : Top P w F' H' (.lst hs) b
def spStart (P : Program) (w : World) : Sp := fun vs H Q _ => ∃ (F : Hp) (M : Mach) (v : V), vs = [v] ∧ Same F H ∧ Is F (encM M) v ∧ WfM M ∧
  ∀ (pr : Prs) (hs : List Dt) (t a b : Addr) (F' H' : Hp), Started M pr → hs.length = M.n → PS0 P w F H F' H' t a b pr hs → Q (.ref t) H'
/-- a def by its promise in heaps -/
structure RawOk (P : Program) (w : World) (K : PySem.W.Frag) (mg : Str → Option Value) (base : Heap) (x : Str) (k : Nat) (sp : Sp) : Prop where
  ex : ∃ (f : Addr) (fd : FuncData) (ps : List Str), FnOk P w K mg base CX0 k f fd ps sp ∧ mg x = some (.ref f) ∧ PySem.W.keepIn K (.ref f) = true ∧ Binds K fd ps []
section
variable {P : Program} {w : World} {K : PySem.W.Frag} {mg : Str → Option Value} {base : Heap}
theorem def_R {x : Str} {st : Stmt} {ps : List Str} {k : Nat} {sp : Sp} (h : Has K mg x st ps) (N : List Str) (sc : FnScope N ps (defScope st)) (hlen : ∀ vs H Q E, sp vs H Q E → vs.length = ps.length)
    (hbody : ∀ (f : Addr) (cdv : Value) (A : Around) (outer : List PySem.Env) (s : Shared) (H : Hp) (E : XK) (vs : List V) (Q : VK), Room k (CB P w K mg base N x st f cdv A outer s H E).A → (CB P w K mg base N x st f cdv A outer s H E).A.units + 64 < cLine → (CB P w K mg base N x st f cdv A outer s H E).N.Nodup → sp vs H Q E →
      RS (CB P w K mg base N x st f cdv A outer s H E) (defBody st) (L2.start N vs) H { nx := fun _ H' => Q .non H', rt := Q }) : RawOk P w K mg base x (k + 1) sp := by
  obtain ⟨f, fd, F, hm, hb⟩ := h.ex
  exact ⟨f, fd, ps, F.ok sc hlen fun cdv A outer s H vs Q E hr hs => ⟨_, rs_pss, hbody f cdv A outer s H E vs Q hr hr.units sc.nd hs⟩, hm, F.kp, hb⟩
theorem started_put {M : Mach} {pr : Prs} {i : Nat} {x : Str × Nat} {v : Nat} (hx : M.starts[i]? = some x) (hs : x.2 < pr.length) (h1 : ∀ s, hasP pr s = true → ∃ y ∈ M.starts.take i, y.2 = s) (h2 : ∀ y ∈ M.starts.take i, hasP pr y.2 = true) :
    (∀ s, hasP (pr.set x.2 (some v)) s = true → ∃ y ∈ M.starts.take (i + 1), y.2 = s) ∧ ∀ y ∈ M.starts.take (i + 1), hasP (pr.set x.2 (some v)) y.2 = true := by
  unfold hasP at *
  refine ⟨fun s h => ?_, fun y hy => ?_⟩
  · rw [getD_set] at h
    rw [take_snoc hx]
    split at h
    · rename_i e
      exact ⟨x, by simp, e.1⟩
    · obtain ⟨y, hy, e⟩ := h1 s h
      exact ⟨y, List.mem_append_left _ hy, e⟩
  · rw [getD_set]
    rw [take_snoc hx] at hy
    split
    · rfl
    · rename_i ne
      rcases List.mem_append.mp hy with hy | hy
      · exact h2 y hy
      · have : y = x := by simpa using hy
        subst this
        exact absurd ⟨rfl, hs⟩ ne
theorem started_same {M : Mach} {pr : Prs} {i : Nat} {x : Str × Nat} (hx : M.starts[i]? = some x) (hp : hasP pr x.2 = true) (h1 : ∀ s, hasP pr s = true → ∃ y ∈ M.starts.take i, y.2 = s) (h2 : ∀ y ∈ M.starts.take i, hasP pr y.2 = true) :
    (∀ s, hasP pr s = true → ∃ y ∈ M.starts.take (i + 1), y.2 = s) ∧ ∀ y ∈ M.starts.take (i + 1), hasP pr y.2 = true := by
  rw [take_snoc hx]
  refine ⟨fun s h => ?_, fun y hy => ?_⟩
  · obtain ⟨y, hy, e⟩ := h1 s h
    exact ⟨y, List.mem_append_left _ hy, e⟩
  · rcases List.mem_append.mp hy with hy | hy
    · exact h2 y hy
    · have : y = x := by simpa using hy
      subst this
      exact hp
theorem d_started_prices (M : Names mg) (D : DefOk P w K mg base "price_of_start" 1 sPrice) (h : Has K mg "started_prices" (top 41) ["machine"]) : RawOk P w K mg base "started_prices" 2 (spStart P w) := by
  refine def_R h ["machine", "prices", "row", "hows", "label", "state", "signs"] ⟨rfl, rfl, rfl, by decide +kernel, rfl, by decide +kernel, by decide +kernel⟩ (fun vs H Q E ⟨_, _, _, e, _⟩ => by subst e; rfl) fun f cdv A outer s H E vs Q hr hu nd ⟨F, N, v, e, hF, hv, wf, q⟩ => ?_
  subst e
  have hz := szl
  have n100 : N.steps.length ≤ 100 := wf.steps.n100
  have r := rep_start (N := ["machine", "prices", "row", "hows", "label", "state", "signs"]) (P := P) (w := w) hF (ArgsOk.val hv .nil) (by show 1 ≤ 7; decide)
  refine rs_step r (fun ρ => ρ = [.val (encM N), .own none (.lst ((List.replicate N.n none).map optD)), .un, .un, .un, .un, .un]) (t_asgComp 1 [("row", 2)] N.steps rowD (fun _ => true) (fun _ => .non) (i_lst (j_ix (v_val (j_nm 0 rfl (j_int ⟨_, rfl, xd_tup rfl ⟨_, rfl, ⟨rfl, rfl⟩⟩⟩))))) (by omega) (fun x hx => turn_id fun _ _ _ _ _ => b_nm 2 (fun _ _ _ _ _ => (j_non ⟨rfl, rfl⟩)) (by decide) nd) ?_ nd (blk ["machine", "prices", "row", "hows", "label", "state", "signs"] (defScope (top 41)) (by decide +kernel))) fun ρ σ F1 H1 e e1 r1 => ?_
  · rw [filt_true, List.map_const', List.map_replicate]
    rfl
  subst e
  refine rs_step r1 (fun ρ => ρ = [.val (encM N), .own none (.lst ((List.replicate N.n none).map optD)), .un, .own none (.lst (List.replicate N.n .non)), .un, .un, .un]) (t_asgComp 3 [("row", 2)] N.steps rowD (fun _ => true) (fun _ => .non) (i_lst (j_ix (v_val (j_nm 0 rfl (j_int ⟨_, rfl, xd_tup rfl ⟨_, rfl, ⟨rfl, rfl⟩⟩⟩))))) (by omega) (fun x hx => turn_id fun _ _ _ _ _ => b_nm 2 (fun _ _ _ _ _ => (j_non ⟨rfl, rfl⟩)) (by decide) nd) ?_ nd (blk ["machine", "prices", "row", "hows", "label", "state", "signs"] (defScope (top 41)) (by decide +kernel))) fun ρ σ F2 H2 e e2 r2 => ?_
  · rw [filt_true, List.map_const']
    rfl
  subst e
  refine rs_step r2 (fun ρ => ∃ (pr : Prs) (hs : List Dt) (d4 d5 d6 : Slot), Started N pr ∧ hs.length = N.n ∧ ρ = [.val (encM N), .own none (.lst (pr.map optD)), .un, .own none (.lst hs), d4, d5, d6]) (t_for (i_lst (j_ix (v_val (j_nm 0 rfl (j_int ⟨_, rfl, xd_tup rfl ⟨_, rfl, fun i ρ => ∃ (pr : Prs) (hs : List Dt) (d4 d5 d6 : Slot), pr.length = N.n ∧ hs.length = N.n ∧ (∀ s, hasP pr s = true → ∃ y ∈ N.starts.take i, y.2 = s) ∧ (∀ y ∈ N.starts.take i, hasP pr y.2 = true) ∧
    ρ = [.val (encM N), .own none (.lst (pr.map optD)), .un, .own none (.lst hs), d4, d5, d6], ⟨List.replicate N.n none, List.replicate N.n .non, _, _, _, by simp, by simp, fun s h => ?_, fun y h => by simp at h, rfl⟩, fun i d ρ hd ⟨pr, hs, _, _, _, l1, l2, h1, h2, e⟩ => ?_, fun ρ ⟨pr, hs, _, _, _, l1, l2, h1, h2, e⟩ => ?_⟩⟩)))))) fun ρ σ F3 H3 ⟨pr, hs, d4, d5, d6, hst, hhs, e⟩ e3 r3 => ?_
  · unfold hasP at h
    rw [List.getD_eq_getElem?_getD, List.getElem?_replicate] at h
    split at h <;> cases h
  · subst e
    obtain ⟨x, hx, rfl⟩ := mget hd
    obtain ⟨hlab, hx1, hx2⟩ := wf.starts.lab x (List.mem_of_getElem? hx)
    have ea := atI_map (f := optD) (opt_at (pr := pr) (i := x.2) (by omega))
    refine g_tup (gs_cons (g_nm 4 (gs_cons (g_nm 5 (gs_nil ?_) nd)) nd)) rfl
    refine s_cons (t_asg 6 (j_call D hr (a_cons (v_val (j_nm 4 rfl (a_nil ⟨_, rfl, nd0, ⟨_, rfl, hlab, fun sg => ?_⟩⟩))))) nd)
    cases ez : pr.getD x.2 none with
    | none =>
      rw [ez] at ea
      refine s_cons (t_ifB true (jtb_bool (jwb_orT (jt_cmp (j_ix (v_own 1 rfl (j_nm 5 rfl ⟨_, rfl, xd_lst ea (v_val (j_non ⟨_, rfl, cd_isN ⟨rfl, rfl⟩⟩))⟩))))) ⟨rfl, rfl⟩) (fun h => ?_) (fun h => (by cases h)))
      refine s_cons (t_sub 1 (j_nm 6 rfl ⟨_, _, rfl, (j_nm 5 rfl ⟨_, _, rfl, wd_lst (ixN_nat (by rw [List.length_map]; omega)) ?_⟩)⟩))
      refine s_cons (t_sub 3 (j_tup (l_cons (j_nm 4 rfl (l_nil ⟨_, _, rfl, (j_nm 5 rfl ⟨_, _, rfl, wd_lst (ixN_nat (by omega)) ?_⟩)⟩)))))
      obtain ⟨q1, q2⟩ := started_put (v := sg) hx (by omega) h1 h2
      refine s_nil (s_nil ⟨pr.set x.2 (some sg), hs.set x.2 (.tup [.str x.1]), .val (.str x.1), .val (nD x.2), .val (nD sg), by simpa using l1, by simpa using l2, q1, q2, ?_⟩)
      rw [← map_set']
      rfl
    | some z =>
      rw [ez] at ea
      refine s_cons (t_ifB (false || decide ((sg : Int) < (z : Int))) (jtb_bool (jwb_or (jt_cmp (j_ix (v_own 1 rfl (j_nm 5 rfl ⟨_, rfl, xd_lst ea (v_val (j_non ⟨_, rfl, cd_isN ⟨rfl, rfl⟩⟩))⟩)))) fun h => (jwb_or1 (jt_cmp (j_nm 6 rfl (v_val (j_ix (v_own 1 rfl (j_nm 5 rfl ⟨_, rfl, xd_lst ea ⟨_, rfl, cd_lt ⟨rfl, rfl⟩⟩⟩)))))))) ⟨rfl, rfl⟩) (fun h => ?_) (fun h => ?_))
      · refine s_cons (t_sub 1 (j_nm 6 rfl ⟨_, _, rfl, (j_nm 5 rfl ⟨_, _, rfl, wd_lst (ixN_nat (by rw [List.length_map]; omega)) ?_⟩)⟩))
        refine s_cons (t_sub 3 (j_tup (l_cons (j_nm 4 rfl (l_nil ⟨_, _, rfl, (j_nm 5 rfl ⟨_, _, rfl, wd_lst (ixN_nat (by omega)) ?_⟩)⟩)))))
        obtain ⟨q1, q2⟩ := started_put (v := sg) hx (by omega) h1 h2
        refine s_nil (s_nil ⟨pr.set x.2 (some sg), hs.set x.2 (.tup [.str x.1]), .val (.str x.1), .val (nD x.2), .val (nD sg), by simpa using l1, by simpa using l2, q1, q2, ?_⟩)
        rw [← map_set']
        rfl
      · obtain ⟨q1, q2⟩ := started_same hx (by unfold hasP; rw [ez]; rfl) h1 h2
        exact s_nil (s_nil ⟨pr, hs, _, _, _, l1, l2, q1, q2, rfl⟩)
  · subst e
    rw [List.length_map, List.take_length] at h1 h2
    exact ⟨pr, hs, _, _, _, ⟨l1, h1, h2⟩, l2, rfl⟩
  subst e
  obtain ⟨a, a1, a2, a3, a4⟩ := r3.own (i := 1) rfl
  obtain ⟨b, b1, b2, b3, b4⟩ := r3.own (i := 3) rfl
  have a4 : H a = none := a4
  have b4 : H b = none := b4
  have ne : a ≠ b := fun e => by
    have := r3.inj 1 3 _ _ _ _ a rfl rfl a1 (e ▸ b1)
    cases this
  refine rs_of (pss_one r1_ps) (r1_of (ps_ret re_pe) (re_of (pe_tup ra_pa) (ra_of (pa_cons re_pe ra_pa rfl) (nm_pe 1 rfl (Or.inl rfl) (by decide) (by decide) a1 (ra_of (pa_cons re_pe pa_nil rfl) (nm_pe 3 rfl (Or.inl rfl) (by decide) (by decide) b1 ⟨by show 2 ≤ sizeLine; decide, fun t ht => ?_⟩))))))
  have nta : t ≠ a := fun e => by
    obtain ⟨u, hu⟩ := a3.there
    rw [e, hu] at ht; cases ht
  have ntb : t ≠ b := fun e => by
    obtain ⟨u, hu⟩ := b3.there
    rw [e, hu] at ht; cases ht
  have eF := e1.trans (e2.trans e3)
  have kp : ∀ x u, H x = some u → H3 x = some u := fun x u hx => r3.keep x u hx (by simp)
  refine q pr hs t a b F3 (upd H3 t (.tup [.ref a, .ref b])) hst hhs ⟨eF, fun x u hx => ?_, r3.fresh, fun x u hx => ?_, a4, b4, ?_, a2, b2, ?_, ne, upd_same, a3.mono (Same.refl _) (upd_ne (Ne.symm nta)), b3.mono (Same.refl _) (upd_ne (Ne.symm ntb))⟩
  · have := r3.part x u hx
    rw [upd_ne (fun e => by rw [e, ht] at this; cases this)]
    exact this
  · have := kp x u hx
    rw [upd_ne (fun e => by rw [e, ht] at this; cases this)]
    exact this
  · cases hq : H t with
    | none => rfl
    | some u => rw [kp t u hq] at ht; cases ht
  · cases hq : F3 t with
    | none => rfl
    | some u => rw [r3.part t u hq] at ht; cases ht
/-- prices_fall's call keeps the tuple of the two -/
theorem PS0.next {F H F1 H1 F2 H2 : Hp} {t a b : Addr} {pr pr' : Prs} {hs hs' : List Dt} (h : PS0 P w F H F1 H1 t a b pr hs) (e : Same F1 F2) (hp : Same F2 H2) (hf : ∀ x, F1 x = none → H1 x ≠ none → F2 x = none) (hk : ∀ x u, H1 x = some u → x ∉ [a, b] → H2 x = some u)
    (tt : TopAll P w F2 H2 [.lst (pr'.map optD), .lst hs'] [a, b]) : PS0 P w F H F2 H2 t a b pr' hs' := by
  obtain ⟨ua, hua⟩ := h.pa.there
  obtain ⟨ub, hub⟩ := h.pb.there
  have nta : t ≠ a := fun e => by
    obtain ⟨xs, q, _⟩ := h.pa
    rw [← e, h.tup] at q; cases q
  have ntb : t ≠ b := fun e => by
    obtain ⟨xs, q, _⟩ := h.pb
    rw [← e, h.tup] at q; cases q
  cases tt with
  | cons t1 tt =>
    cases tt with
    | cons t2 _ =>
      refine ⟨h.sF.trans e, hp, fun x h1 h2 => ?_, fun x u hx => ?_, h.ha, h.hb, h.ht, hf a h.fa (by rw [hua]; simp), hf b h.fb (by rw [hub]; simp), hf t h.ft (by rw [h.tup]; simp), h.ne, hk t _ h.tup (by simp [nta, ntb]), t1, t2⟩
      · cases q : H x with
        | none => exact absurd q h2
        | some u => exact hf x (h.fresh x h1 h2) (by rw [h.keep x u q]; simp)
      · refine hk x u (h.keep x u hx) ?_
        have n1 : x ≠ a := fun e => by rw [e, h.ha] at hx; cases hx
        have n2 : x ≠ b := fun e => by rw [e, h.hb] at hx; cases hx
        simp [n1, n2]
def sPriced : FS := fun as R => ∃ M, as = [.val (encM M)] ∧ WfM M ∧ ∀ pr hs, Priced M pr → R (.tup [.lst (pr.map optD), .lst hs]) []
theorem d_priced (M : Names mg) (D1 : RawOk P w K mg base "started_prices" 2 (spStart P w)) (D2 : DefOk P w K mg base "prices_fall" 1 sFall) (h : Has K mg "priced" (top 43) ["machine"]) : RawOk P w K mg base "priced" 3 (spD P w sPriced) := by
  refine def_R h ["machine", "told"] ⟨rfl, rfl, rfl, by decide +kernel, rfl, by decide +kernel, by decide +kernel⟩ (fun vs H Q E ⟨_, _, _, _, _, ha, ⟨_, e, _⟩, _⟩ => by subst e; rw [← ha.lens]; rfl) fun f cdv A outer s H E vs Q hr hu nd ⟨F, as, os, R, hF, ha, ⟨N, e, wf, q⟩, k⟩ => ?_
  subst e
  cases ha with
  | @val _ v _ vs os hv ha =>
  cases ha
  obtain ⟨f1, fd1, ps1, Fo1, hm1, hk1, hb1⟩ := D1.ex
  obtain ⟨f2, fd2, ps2, Fo2, hm2, hk2, hb2⟩ := D2.ex
  refine rs_of (pss_cons r1_ps rs_pss) (r1_of (ps_set (i := 1) nd rfl (Or.inl rfl) re_pe) ?_)
  refine re_of (pe_call (E := fun _ _ _ => False) Fo1 hr rfl hm1 hk1 hb1 .nil (fun _ _ _ _ _ _ _ h => h.elim) ra_pa (by decide) rfl rfl) (ra_of (pa_cons re_pe pa_nil rfl) (nm_pe 0 rfl (Or.inl rfl) (by decide) (by decide) rfl ?_))
  refine ⟨F, N, v, rfl, hF, hv, wf, fun pr hs t a b F1 H1 hst hhs ps => ?_⟩
  have hp0 := hst.pricing wf
  obtain ⟨m0, hm0⟩ := halts_ex wf.steps _ _ pr hp0.len rfl rfl
  refine rs_of (pss_cons r1_ps rs_pss) (r1_of (ps_while PassesOwn.never rt_pt rs_pss) ⟨fun m σ' H' => ∃ (F' : Hp) (pr : Prs) (hs : List Dt), σ' = [some v, some (.ref t)] ∧ PS0 P w F H F' H' t a b pr hs ∧ Pricing N pr ∧ hs.length = N.n ∧ Halts N.steps m pr, ⟨m0, F1, pr, hs, rfl, ps, hp0, hhs, hm0⟩, ?_⟩)
  rintro m σ' H2 ⟨F2, pr, hs, rfl, ps, hpr, hhs, hm⟩
  have hv2 : Is F2 (encM N) v := hv.mono ps.sF
  -- machine[1]
  obtain ⟨av, xs, ev, hx1, hx2⟩ : ∃ p xs, v = .ref p ∧ F2 p = some (.tup xs) ∧ IsAll F2 [.lst (N.starts.map pD), .lst (N.steps.map rowD), .lst (N.good.map nD)] xs := by
    cases hv2 with
    | tup h1 h2 => exact ⟨_, _, rfl, h1, h2⟩
  cases hx2 with
  | cons i0 hx2 =>
  cases hx2 with
  | @cons _ v1 _ _ i1 hx2 =>
  cases hx2 with
  | cons i2 hx2 =>
  cases hx2
  have loc1 : Loc (CB P w K mg base ["machine", "told"] "priced" (top 43) f cdv A outer s H E).env.scope "told" := Or.inl rfl
  refine rt_of (pt_val re_pe (by intro _; rfl)) (re_of (pe_call (E := fun _ _ _ => False) Fo2 (hr.mono (by decide)) rfl hm2 hk2 hb2 .nil (fun _ _ _ _ _ _ _ h => h.elim) ra_pa (by decide) rfl rfl) ?_)
  refine ra_of (pa_cons re_pe ra_pa rfl) (re_of (pe_ix ix_tup re_pe re_pe (fun _ _ => rfl)) (nm_pe 0 rfl (Or.inl rfl) (by decide) (by decide) rfl (re_of pe_int ⟨av, _, 1, v1, ev, rfl, SqT.of (ps.part _ _ hx1), rfl, ?_⟩)))
  refine ra_of (pa_cons re_pe ra_pa rfl) (re_of (pe_ix ix_tup re_pe re_pe (fun _ _ => rfl)) (nm_pe 1 rfl (Or.inl rfl) (by decide) (by decide) rfl (re_of pe_int ⟨t, _, 0, .ref a, rfl, rfl, SqT.of ps.tup, rfl, ?_⟩)))
  refine ra_of (pa_cons re_pe pa_nil rfl) (re_of (pe_ix ix_tup re_pe re_pe (fun _ _ => rfl)) (nm_pe 1 rfl (Or.inl rfl) (by decide) (by decide) rfl (re_of pe_int ⟨t, _, 1, .ref b, rfl, rfl, SqT.of ps.tup, rfl, ?_⟩)))
  refine ⟨F2, [.val (.lst (N.steps.map rowD)), .own (.lst (pr.map optD)), .own (.lst hs)], [a, b], fun d cs => ∃ hs' : List Dt, hs'.length = N.n ∧ d = .bl (fallP N.steps pr).2 ∧ cs = [.lst ((fallP N.steps pr).1.map optD), .lst hs'], ps.part, .val i1 (.own ps.fa ps.pa (by simpa using ps.ne) (.own ps.fb ps.pb (by simp) .nil)), ⟨N.steps, pr, hs, rfl, wf.steps, hpr.len, hhs, fun hs' h => ⟨hs', h, rfl, rfl⟩⟩, fun d cs v3 F3 H3 ⟨hs', hl', ed, ec⟩ e3 hp3 hf3 hk3 i3 tt => ?_⟩
  subst ed ec
  cases i3
  have ps3 := ps.next e3 hp3 hf3 hk3 tt
  have hpr3 := hpr.fall wf
  refine ⟨(fallP N.steps pr).2, rfl, ?_⟩
  cases hb : (fallP N.steps pr).2 with
  | true =>
    refine iteT ⟨fun σ4 H4 => ∃ m', m' < m ∧ ∃ (F' : Hp) (pr : Prs) (hs : List Dt), σ4 = [some v, some (.ref t)] ∧ PS0 P w F H F' H4 t a b pr hs ∧ Pricing N pr ∧ hs.length = N.n ∧ Halts N.steps m' pr, fun σ4 H4 z => z, ?_⟩
    cases m with
    | zero => exact hm.elim
    | succ m => exact rs_of (pss_one r1_ps) (r1_of ps_pass ⟨m, Nat.lt_succ_self _, F3, _, hs', rfl, ps3, hpr3, hl', hm hb⟩)
  | false =>
    have fa := fallP_fa wf.steps pr hpr.len
    have e4 : fallP N.steps pr = (pr, false) := fa.same hb
    rw [e4] at ps3
    have done := hpr.done wf hb
    refine iteF ?_
    refine rs_of (pss_one r1_ps) (r1_of (ps_ret re_pe) (nm_pe 1 rfl (Or.inl rfl) (by decide) (by decide) rfl ?_))
    -- all is shared from here on
    obtain ⟨xa, qa1, qa2⟩ := ps3.pa
    obtain ⟨xb, qb1, qb2⟩ := ps3.pb
    have nta : t ≠ a := fun e => by rw [← e, ps3.tup] at qa1; cases qa1
    have ntb : t ≠ b := fun e => by rw [← e, ps3.tup] at qb1; cases qb1
    let F4 : Hp := upd (upd (upd F3 a (.lst xa)) b (.lst xb)) t (.tup [.ref a, .ref b])
    have g1 : Same F3 (upd F3 a (.lst xa)) := fun x u hx => by rw [upd_ne (fun e => by rw [e, ps3.fa] at hx; cases hx)]; exact hx
    have g2 : Same (upd F3 a (.lst xa)) (upd (upd F3 a (.lst xa)) b (.lst xb)) := fun x u hx => by
      rw [upd_ne (fun e => by rw [e, upd_ne (Ne.symm ps3.ne), ps3.fb] at hx; cases hx)]; exact hx
    have g3 : Same (upd (upd F3 a (.lst xa)) b (.lst xb)) F4 := fun x u hx => by
      show upd _ _ _ x = _
      rw [upd_ne (fun e => by rw [e, upd_ne ntb, upd_ne nta, ps3.ft] at hx; cases hx)]; exact hx
    have fa4 : F4 a = some (.lst xa) := by
      show upd _ _ _ a = _
      rw [upd_ne (Ne.symm nta), upd_ne ps3.ne, upd_same]
    have fb4 : F4 b = some (.lst xb) := by
      show upd _ _ _ b = _
      rw [upd_ne (Ne.symm ntb), upd_same]
    have G := g1.trans (g2.trans g3)
    refine k _ [] (.ref t) F4 H3 (q pr hs' done) (ps3.sF.trans G) (fun x u hx => ?_) (fun x h1 h2 => ?_) (fun x u hx _ => ps3.keep x u hx) (.tup upd_same (.cons (.lst fa4 (qa2.mono G)) (.cons (.lst fb4 (qb2.mono G)) .nil))) .nil
    · by_cases et : x = t
      · subst et
        have : F4 x = some (.tup [.ref a, .ref b]) := upd_same
        rw [this] at hx; cases hx
        exact ps3.tup
      · have hx : upd _ _ _ x = some u := hx
        rw [upd_ne et] at hx
        by_cases eb : x = b
        · subst eb; rw [upd_same] at hx; cases hx; exact qb1
        · rw [upd_ne eb] at hx
          by_cases ea : x = a
          · subst ea; rw [upd_same] at hx; cases hx; exact qa1
          · rw [upd_ne ea] at hx
            exact ps3.part x u hx
    · have n1 : x ≠ t := fun e => h2 (e ▸ ps3.ht)
      have n2 : x ≠ a := fun e => h2 (e ▸ ps3.ha)
      have n3 : x ≠ b := fun e => h2 (e ▸ ps3.hb)
      show upd _ _ _ x = none
      rw [upd_ne n1, upd_ne n3, upd_ne n2]
      exact ps3.fresh x h1 h2
theorem RawOk.defOk {x : Str} {k : Nat} {S : FS} (h : RawOk P w K mg base x k (spD P w S)) : DefOk P w K mg base x k S := ⟨h.ex⟩
end
end DL

set_option Elab.async false
set_option linter.all false
set_option maxRecDepth 100000
set_option autoImplicit false
set_option maxHeartbeats 4000000
/-! E18: prices_of, found_states. -/
namespace DL
open PySem PySem.Spec L2
/-- the states that are found: 0 and what trees come to -/
structure Found (M : Mach) (some : List Nat) : Prop where
  asc : Asc leN some
  iff : ∀ p, p ∈ some ↔ p < M.n ∧ (p = 0 ∨ ∃ t, M.run t = p)
section
variable {P : Program} {w : World} {K : PySem.W.Frag} {mg : Str → Option Value} {base : Heap}
def sPricesOf : FS := fun as R => ∃ M, as = [.val (encM M)] ∧ WfM M ∧ ∀ pr, Priced M pr → R (.lst (pr.map optD)) []
theorem d_prices_of (M : Names mg) (D : DefOk P w K mg base "priced" 3 sPriced) (h : Has K mg "prices_of" (top 44) ["machine"]) : DefOk P w K mg base "prices_of" 4 sPricesOf := by
  refine def_D h ["machine"] ⟨rfl, rfl, rfl, by decide +kernel, rfl, by decide +kernel, by decide +kernel⟩ (fun as R ⟨_, e, _⟩ => by subst e; rfl) fun f cdv A outer s H E as R hr hu nd ⟨N, e, wf, q⟩ => ?_
  subst e
  exact s_cons (t_ret (j_ix (v_val (j_call D hr (a_cons (v_val (j_nm 0 rfl (a_nil ⟨_, rfl, nd0, ⟨N, rfl, wf, fun pr hs hp => (j_int ⟨_, rfl, xd_tup rfl ⟨_, rfl, q pr hp⟩⟩)⟩⟩))))))))
def sFound : FS := fun as R => ∃ M, as = [.val (encM M)] ∧ WfM M ∧ ∀ some, Found M some → R (.lst (some.map nD)) []
theorem asc_range (n : Nat) (p : Nat → Bool) : Asc leN ((List.range n).filter p) := by
  refine Asc.filter ?_ p
  unfold Asc
  rw [List.pairwise_iff_getElem]
  intro i j hi hj hij
  simp [leN]
  omega
theorem d_found_states (M : Names mg) (D : DefOk P w K mg base "prices_of" 4 sPricesOf) (h : Has K mg "found_states" (top 46) ["machine"]) : DefOk P w K mg base "found_states" 5 sFound := by
  refine def_D h ["machine", "prices", "state"] ⟨rfl, rfl, rfl, by decide +kernel, rfl, by decide +kernel, by decide +kernel⟩ (fun as R ⟨_, e, _⟩ => by subst e; rfl) fun f cdv A outer s H E as R hr hu nd ⟨N, e, wf, q⟩ => ?_
  subst e
  have hz := szl
  have n100 : N.n ≤ 100 := wf.steps.n100
  refine s_cons (t_asg 1 (j_call D hr (a_cons (v_val (j_nm 0 rfl (a_nil ⟨_, rfl, nd0, ⟨N, rfl, wf, fun pr hp => ?_⟩⟩))))) nd)
  have hl := hp.len
  refine s_cons (t_ret (j_comp [("state", 2)] (List.range pr.length) nD (fun s => decide ((s : Int) = 0) || !isNon (optD (pr.getD s none))) nD (i_rng1 M.range (j_blt "len" M.len (by decide +kernel) (a_cons (v_val (j_nm 1 rfl (a_nil ⟨_, rfl, kd_lenL ⟨_, rfl, ⟨by omega, by rw [List.length_map]; omega⟩, ⟨by rw [List.length_map]; exact rng0 _, rfl⟩⟩⟩)))))) (by rw [List.length_range]; omega) (fun s hs => turn_if _ fun _ _ _ _ _ => b_nm 2 ⟨fun _ _ _ _ _ => (jtb_bool (jwb_or (jt_cmp (j_nm 2 rfl (v_val (j_int ⟨_, rfl, cd_eq ⟨rfl, rfl⟩⟩)))) fun h => (jwb_or1 (jt_cmp (j_ix (v_val (j_nm 1 rfl (j_nm 2 rfl ⟨_, rfl, xd_lst (atI_map (opt_at (by have := List.mem_range.mp hs; omega))) (v_val (j_non ⟨_, rfl, cd_notN ⟨rfl, rfl⟩⟩))⟩))))))) ⟨rfl, rfl⟩), fun _ _ _ _ _ _ => (j_nm 2 rfl ⟨rfl, rfl⟩), fun _ => rfl⟩ (by decide) nd) ⟨_, rfl, q _ ⟨asc_range _ _, fun p => ?_⟩⟩ nd (blk ["machine", "prices", "state"] (defScope (top 46)) (by decide +kernel))))
  rw [List.mem_filter, List.mem_range, isNon_opt, hl]
  constructor
  · rintro ⟨h1, h2⟩
    refine ⟨h1, ?_⟩
    simp only [Bool.or_eq_true, decide_eq_true_eq] at h2
    rcases h2 with h2 | h2
    · left; omega
    · right
      refine hp.only p ?_
      unfold hasP
      cases hq : pr.getD p none with
      | none => rw [hq] at h2; cases h2
      | some _ => rfl
  · rintro ⟨h1, h2⟩
    refine ⟨h1, ?_⟩
    simp only [Bool.or_eq_true, decide_eq_true_eq]
    by_cases e : p = 0
    · left; omega
    · right
      obtain ⟨t, ht⟩ := h2.resolve_left e
      have := hp.all t (by rw [ht]; exact e)
      rw [ht] at this
      unfold hasP at this
      cases hq : pr.getD p none with
      | none => rw [hq] at this; cases this
      | some _ => rfl
end
end DL

set_option Elab.async false
set_option linter.all false
set_option maxRecDepth 100000
set_option autoImplicit false
set_option maxHeartbeats 4000000
/-! E19: classes of states (plain): rounds of splitting end at the greatest bisimulation. -/
namespace DL
open PySem PySem.Spec L2
/-! ### how many -/
def Card (l : List Nat) (n : Nat) : Prop := ∃ L : List Nat, L.Nodup ∧ (∀ x, x ∈ L ↔ x ∈ l) ∧ L.length = n
theorem Card.unique {l : List Nat} {n m : Nat} (h1 : Card l n) (h2 : Card l m) : n = m := by
  obtain ⟨L, a1, a2, rfl⟩ := h1
  obtain ⟨L', b1, b2, rfl⟩ := h2
  exact Nat.le_antisymm (le_of_sub a1 fun x hx => (b2 x).mpr ((a2 x).mp hx)) (le_of_sub b1 fun x hx => (a2 x).mpr ((b2 x).mp hx))
theorem Card.le {l : List Nat} {n : Nat} (h : Card l n) : n ≤ l.length := by
  obtain ⟨L, a1, a2, rfl⟩ := h
  exact le_of_sub a1 fun x hx => (a2 x).mp hx
theorem nodup_tight {α : Type} [DecidableEq α] : ∀ (l L : List α), L.Nodup → (∀ x ∈ L, x ∈ l) → l.length ≤ L.length → l.Nodup
  | [], _, _, _, _ => List.nodup_nil
  | a :: t, L, nd, h, hl => by
    have ha : a ∉ t := fun ha => by
      have := le_of_sub (ns := t) nd fun x hx => by
        rcases List.mem_cons.mp (h x hx) with e | q
        · exact e ▸ ha
        · exact q
      rw [List.length_cons] at hl
      omega
    refine List.nodup_cons.mpr ⟨ha, ?_⟩
    by_cases hL : a ∈ L
    · refine nodup_tight t (L.erase a) (nd.erase a) (fun x hx => ?_) ?_
      · have hx' := (nd.mem_erase_iff).mp hx
        exact (List.mem_cons.mp (h x hx'.2)).resolve_left hx'.1
      · rw [List.length_erase_of_mem hL]
        rw [List.length_cons] at hl
        omega
    · have := le_of_sub (ns := t) nd fun x hx => (List.mem_cons.mp (h x hx)).resolve_left fun e => hL (e ▸ hx)
      rw [List.length_cons] at hl
      omega
theorem inj_of_nodup_map {α β : Type} {f : α → β} {l : List α} (h : (l.map f).Nodup) {a b : α} (ha : a ∈ l) (hb : b ∈ l) (e : f a = f b) : a = b := by
  obtain ⟨i, hi⟩ := List.getElem?_of_mem ha
  obtain ⟨j, hj⟩ := List.getElem?_of_mem hb
  have := nodup_at h (i := i) (j := j) (x := f a) (by rw [List.getElem?_map, hi]; rfl) (by rw [List.getElem?_map, hj, e]; rfl)
  subst this
  rw [hi] at hj
  exact Option.some.inj hj
/-- finer classes are as many at least; if not more, they are the same -/
theorem card_refine {l : List Nat} {c c' : Nat → Nat} {n n' : Nat} (hr : ∀ s ∈ l, ∀ t ∈ l, c' s = c' t → c s = c t) (h : Card (l.map c) n) (h' : Card (l.map c') n') : n ≤ n' ∧ (n' ≤ n → ∀ s ∈ l, ∀ t ∈ l, c s = c t → c' s = c' t) := by
  obtain ⟨L, a1, a2, rfl⟩ := h
  obtain ⟨L', b1, b2, rfl⟩ := h'
  -- a state of each finer class
  let g : Nat → Nat := fun x => c ((l.find? fun s => decide (c' s = x)).getD 0)
  have hg : ∀ s ∈ l, g (c' s) = c s := fun s hs => by
    show c ((l.find? fun t => decide (c' t = c' s)).getD 0) = c s
    cases q : l.find? fun t => decide (c' t = c' s) with
    | none => exact absurd (List.find?_eq_none.mp q s hs) (by simp)
    | some t =>
      have h1 := List.find?_some q
      have h2 := List.mem_of_find?_eq_some q
      exact hr t h2 s hs (by simpa using h1)
  have sub : ∀ x ∈ L, x ∈ L'.map g := fun x hx => by
    obtain ⟨s, hs, rfl⟩ := List.mem_map.mp ((a2 x).mp hx)
    exact List.mem_map.mpr ⟨c' s, (b2 _).mpr (List.mem_map.mpr ⟨s, hs, rfl⟩), hg s hs⟩
  have h1 := le_of_sub a1 sub
  rw [List.length_map] at h1
  refine ⟨h1, fun h2 s hs t ht e => ?_⟩
  have nd := nodup_tight (L'.map g) L a1 sub (by rw [List.length_map]; exact h2)
  exact inj_of_nodup_map nd ((b2 _).mpr (List.mem_map.mpr ⟨s, hs, rfl⟩)) ((b2 _).mpr (List.mem_map.mpr ⟨t, ht, rfl⟩)) (by rw [hg s hs, hg t ht, e])
/-! ### the equivalence -/
def Eqv (M : Mach) (some : List Nat) (s t : Nat) : Prop :=
  ∃ E : Nat → Nat → Prop, E s t ∧ (∀ a b, E a b → (a ∈ M.good ↔ b ∈ M.good)) ∧ ∀ a b, E a b → ∀ o ∈ some, E (M.δ a o) (M.δ b o) ∧ E (M.δ o a) (M.δ o b)
theorem Eqv.good {M : Mach} {some : List Nat} {s t : Nat} (h : Eqv M some s t) : s ∈ M.good ↔ t ∈ M.good := by
  obtain ⟨E, h1, h2, _⟩ := h
  exact h2 s t h1
theorem Eqv.step {M : Mach} {some : List Nat} {s t : Nat} (h : Eqv M some s t) {o : Nat} (ho : o ∈ some) : Eqv M some (M.δ s o) (M.δ t o) ∧ Eqv M some (M.δ o s) (M.δ o t) := by
  obtain ⟨E, h1, h2, h3⟩ := h
  exact ⟨⟨E, (h3 s t h1 o ho).1, h2, h3⟩, ⟨E, (h3 s t h1 o ho).2, h2, h3⟩⟩
abbrev Sig := Nat × List Nat × List Nat
def sig (steps : List (List Nat)) (some : List Nat) (c : Nat → Nat) (s : Nat) : Sig := (c s, some.map fun o => c (stepOf steps s o), some.map fun o => c (stepOf steps o s))
theorem sig_iff {steps : List (List Nat)} {some : List Nat} {c : Nat → Nat} {s t : Nat} : sig steps some c s = sig steps some c t ↔ c s = c t ∧ ∀ o ∈ some, c (stepOf steps s o) = c (stepOf steps t o) ∧ c (stepOf steps o s) = c (stepOf steps o t) := by
  unfold sig
  rw [Prod.mk.injEq, Prod.mk.injEq, List.map_inj_left, List.map_inj_left]
  exact ⟨fun ⟨a, b, d⟩ => ⟨a, fun o ho => ⟨b o ho, d o ho⟩⟩, fun ⟨a, b⟩ => ⟨a, fun o ho => (b o ho).1, fun o ho => (b o ho).2⟩⟩
def g0 (M : Mach) (s : Nat) : Nat := if s ∈ M.good then 1 else 0
/-- what holds at each round -/
structure Round (M : Mach) (some : List Nat) (c : Nat → Nat) (many : Nat) : Prop where
  coarse : ∀ s ∈ some, ∀ t ∈ some, Eqv M some s t → c s = c t
  good : ∀ s ∈ some, ∀ t ∈ some, c s = c t → (s ∈ M.good ↔ t ∈ M.good)
  from' : many = 0 ∨ ∃ c0, Card (some.map c0) many ∧ ∀ s ∈ some, ∀ t ∈ some, c s = c t ↔ sig M.steps some c0 s = sig M.steps some c0 t
theorem Round.first (M : Mach) (some : List Nat) : Round M some (g0 M) 0 := by
  refine ⟨fun s _ t _ h => ?_, fun s _ t _ h => ?_, .inl rfl⟩
  · unfold g0
    by_cases q : s ∈ M.good
    · rw [if_pos q, if_pos (h.good.mp q)]
    · rw [if_neg q, if_neg fun z => q (h.good.mpr z)]
  · unfold g0 at h
    by_cases q : s ∈ M.good
    · by_cases z : t ∈ M.good
      · exact ⟨fun _ => z, fun _ => q⟩
      · rw [if_pos q, if_neg z] at h; cases h
    · by_cases z : t ∈ M.good
      · rw [if_neg q, if_pos z] at h; cases h
      · exact ⟨fun a => absurd a q, fun a => absurd a z⟩
theorem Round.next {M : Mach} {some : List Nat} {c c' : Nat → Nat} {many n : Nat} (hcl : ∀ p ∈ some, ∀ q ∈ some, M.δ p q ∈ some) (h : Round M some c many) (hn : Card (some.map c) n) (hc : ∀ s ∈ some, ∀ t ∈ some, c' s = c' t ↔ sig M.steps some c s = sig M.steps some c t) : Round M some c' n := by
  refine ⟨fun s hs t ht e => (hc s hs t ht).mpr (sig_iff.mpr ⟨h.coarse s hs t ht e, fun o ho => ?_⟩), fun s hs t ht e => h.good s hs t ht (sig_iff.mp ((hc s hs t ht).mp e)).1, .inr ⟨c, hn, hc⟩⟩
  exact ⟨h.coarse _ (hcl s hs o ho) _ (hcl t ht o ho) (e.step ho).1, h.coarse _ (hcl o ho s hs) _ (hcl o ho t ht) (e.step ho).2⟩
/-- the classes at the end -/
def Classes (M : Mach) (some : List Nat) (c : Nat → Nat) : Prop := ∀ s ∈ some, ∀ t ∈ some, c s = c t ↔ Eqv M some s t
theorem Round.done {M : Mach} {some : List Nat} {c : Nat → Nat} {many n : Nat} (hcl : ∀ p ∈ some, ∀ q ∈ some, M.δ p q ∈ some) (h0 : 0 ∈ some) (h : Round M some c many) (hn : Card (some.map c) n) (hle : n ≤ many) : Classes M some c := by
  rcases h.from' with e | ⟨c0, hc0, hs⟩
  · subst e
    obtain ⟨L, a1, a2, e⟩ := hn
    have : c 0 ∈ L := (a2 _).mpr (List.mem_map.mpr ⟨0, h0, rfl⟩)
    have := List.length_pos_of_mem this
    omega
  · have hr : ∀ s ∈ some, ∀ t ∈ some, c s = c t → c0 s = c0 t := fun s h1 t h2 e => (sig_iff.mp ((hs s h1 t h2).mp e)).1
    have hinj := (card_refine hr hc0 hn).2 hle
    intro s h1 t h2
    refine ⟨fun e => ⟨fun a b => a ∈ some ∧ b ∈ some ∧ c a = c b, ⟨h1, h2, e⟩, fun a b ⟨q1, q2, q3⟩ => h.good a q1 b q2 q3, fun a b ⟨q1, q2, q3⟩ o ho => ?_⟩, h.coarse s h1 t h2⟩
    have hsig := (sig_iff.mp ((hs a q1 b q2).mp q3)).2 o ho
    exact ⟨⟨hcl a q1 o ho, hcl b q2 o ho, hinj _ (hcl a q1 o ho) _ (hcl b q2 o ho) hsig.1⟩, hcl o ho a q1, hcl o ho b q2, hinj _ (hcl o ho a q1) _ (hcl o ho b q2) hsig.2⟩
theorem Found.zero {M : Mach} {some : List Nat} (wf : WfM M) (h : Found M some) : 0 ∈ some := (h.iff 0).mpr ⟨wf.steps.n1, .inl rfl⟩
theorem Found.closed {M : Mach} {some : List Nat} (wf : WfM M) (h : Found M some) : ∀ p ∈ some, ∀ q ∈ some, M.δ p q ∈ some := fun p hp q hq => by
  obtain ⟨h1, h2⟩ := (h.iff p).mp hp
  obtain ⟨h3, h4⟩ := (h.iff q).mp hq
  refine (h.iff _).mpr ⟨step_lt wf.steps p q, ?_⟩
  rcases h2 with e | ⟨t, e1⟩
  · exact .inl (by rw [e]; exact (wf.steps.dead q).1)
  rcases h4 with e | ⟨u, e2⟩
  · exact .inl (by rw [e]; exact (wf.steps.dead p).2)
  obtain ⟨t', e⟩ := run_step M t u
  exact .inr ⟨t', by rw [e, e1, e2]⟩
theorem Found.few {M : Mach} {some : List Nat} (wf : WfM M) (h : Found M some) : some.length ≤ 100 := by
  have := le_of_sub (ns := List.range M.n) h.asc.nodup fun x hx => List.mem_range.mpr ((h.iff x).mp hx).1
  rw [List.length_range] at this
  exact Nat.le_trans this wf.steps.n100
end DL

set_option Elab.async false
set_option linter.all false
set_option maxRecDepth 100000
set_option autoImplicit false
set_option maxHeartbeats 4000000
/-! E20: split_once, classes_of_states. -/
namespace DL
open PySem PySem.Spec L2
/-! ### numbered in order -/
section
variable {α κ : Type} [DecidableEq κ]
def numsG (f : α → κ) (l : List α) : List (κ × Dt) := l.zipIdx.map fun x => (f x.1, nD x.2)
theorem numsG_keys (f : α → κ) (l : List α) : (numsG f l).map (·.1) = l.map f := by
  unfold numsG
  rw [List.map_map]
  have : (l.zipIdx.map ((fun x : κ × Dt => x.1) ∘ fun x : α × Nat => (f x.1, nD x.2))) = (l.zipIdx.map Prod.fst).map f := by
    rw [List.map_map]; rfl
  rw [this, List.zipIdx_map_fst]
theorem numsG_snoc (f : α → κ) (l : List α) (s : α) : numsG f (l ++ [s]) = numsG f l ++ [(f s, nD l.length)] := by
  unfold numsG
  rw [List.zipIdx_append, List.map_append]
  simp
theorem numsG_len (f : α → κ) (l : List α) : (numsG f l).length = l.length := by unfold numsG; simp
theorem numsG_at {f : α → κ} {l : List α} {i : Nat} {s : α} (nd : (l.map f).Nodup) (h : l[i]? = some s) : valD (numsG f l) (f s) = some (nD i) := by
  refine valD_at (i := i) (by rw [numsG_keys]; exact nd) ?_
  unfold numsG
  rw [List.getElem?_map, List.getElem?_zipIdx, h]
  simp
theorem numsG_none {f : α → κ} {l : List α} {k : κ} (h : k ∉ l.map f) : valD (numsG f l) k = none := valD_none (by rw [numsG_keys]; exact h)
end
def sigK (g : Sig) : NestedKey := .tup [.num g.1, .tup (g.2.1.map fun n : Nat => .num n), .tup (g.2.2.map fun n : Nat => .num n)]
theorem nums_inj : ∀ {a b : List Nat}, (a.map fun n : Nat => NestedKey.num n) = (b.map fun n : Nat => NestedKey.num n) → a = b
  | [], [], _ => rfl
  | [], _ :: _, h => by cases h
  | _ :: _, [], h => by cases h
  | x :: a, y :: b, h => by
    injection h with h1 h2
    injection h1 with h1
    rw [nums_inj h2, show x = y by omega]
theorem sigK_inj {a b : Sig} (h : sigK a = sigK b) : a = b := by
  unfold sigK at h
  injection h with h
  injection h with h1 h
  injection h with h2 h
  injection h with h3 h
  injection h1 with h1
  injection h2 with h2
  injection h3 with h3
  exact Prod.ext (by omega) (Prod.ext (nums_inj h2) (nums_inj h3))
theorem sigK_d (g : Sig) : nkD (sigK g) = .tup [nD g.1, .tup (g.2.1.map nD), .tup (g.2.2.map nD)] := by
  have e : ∀ l : List Nat, nkDs (l.map fun n : Nat => NestedKey.num n) = l.map nD := fun l => by
    rw [nkDs_eq, List.map_map]
    exact List.map_congr_left fun n _ => by simp [nkD, nD]
  unfold sigK
  rw [nkD, nkDs, nkDs, nkDs, nkDs, nkD, nkD, nkD, e, e]
  rfl
theorem sigK_depth (g : Sig) : (sigK g).depth ≤ 8 := by
  have e : ∀ l : List Nat, NestedKey.depthAll (l.map fun n : Nat => NestedKey.num n) ≤ 2 := fun l => by
    induction l with
    | nil => simp [NestedKey.depthAll]
    | cons p l ih =>
      rw [List.map_cons, NestedKey.depthAll]
      simp only [NestedKey.depth]
      omega
  have e1 := e g.2.1
  have e2 := e g.2.2
  unfold sigK
  simp only [NestedKey.depth, NestedKey.depthAll]
  omega
/-- classes as a dict -/
def clsD (some : List Nat) (c : Nat → Nat) : List (Key × Dt) := some.map fun s => (kN s, nD (c s))
theorem clsD_at {some : List Nat} {c : Nat → Nat} {s : Nat} (h : s ∈ some) : valD (clsD some c) (kN s) = Option.some (nD (c s)) := by
  unfold valD clsD
  rw [List.find?_map]
  cases q : some.find? ((fun kv : Key × Dt => decide (kv.1 = kN s)) ∘ fun s => (kN s, nD (c s))) with
  | none => exact absurd (List.find?_eq_none.mp q s h) (by simp)
  | some t =>
    have h1 := List.find?_some q
    have : t = s := kN_inj (by simpa using h1)
    subst this
    rfl
theorem clsD_put {l : List Nat} {c : Nat → Nat} {s j : Nat} (h : s ∉ l) : putD (clsD l c) (kN s) (nD j) = clsD (l ++ [s]) (fun x => if x = s then j else c x) := by
  rw [putD_new]
  · unfold clsD
    rw [List.map_append]
    congr 1
    · refine List.map_congr_left fun x hx => ?_
      show (kN x, nD (c x)) = (kN x, nD (if x = s then j else c x))
      rw [if_neg (show ¬ x = s from fun e => h (e ▸ hx))]
    · simp
  · unfold clsD
    rw [List.map_map]
    intro z
    obtain ⟨x, hx, e⟩ := List.mem_map.mp z
    exact h ((kN_inj (show kN x = kN s from e) : x = s) ▸ hx)
theorem clsD_congr {l : List Nat} {c c' : Nat → Nat} (h : ∀ s ∈ l, c s = c' s) : clsD l c = clsD l c' := by
  unfold clsD
  exact List.map_congr_left fun s hs => by rw [h s hs]
theorem not_take {l : List Nat} (nd : l.Nodup) {i s : Nat} (h : l[i]? = some s) : s ∉ l.take i := fun hm => by
  obtain ⟨j, hj⟩ := List.getElem?_of_mem hm
  rw [List.getElem?_take] at hj
  split at hj
  · have := nodup_at nd hj h
    omega
  · cases hj
section
variable {X : Cx} {ρ : Env} {a : Expr} {p p2 q pos : Pos}
theorem cd_inN {n : Nat} {l : List Nat} {R : Bool → Prop} (h : R (decide (n ∈ l))) : CD X .In (nD n) (.lst (l.map nD)) R := by
  have e : l.map nD = (l.map fun n : Nat => (n : Int)).map Dt.int := by rw [List.map_map]; rfl
  rw [e]
  refine cd_inI ?_
  have : decide ((n : Int) ∈ l.map fun n : Nat => (n : Int)) = decide (n ∈ l) := by
    refine decide_eq_decide.mpr ⟨fun h => ?_, fun h => List.mem_map.mpr ⟨n, h, rfl⟩⟩
    obtain ⟨m, hm, e⟩ := List.mem_map.mp h
    have : m = n := by omega
    exact this ▸ hm
  rw [this]
  exact h
theorem j_lenSetN {R : DP} (hm : X.mg "len" = none) (hm2 : X.mg "set" = none) (h : JE X a ρ fun d ρ1 => ∃ ns : List Nat, d = .lst (ns.map nD) ∧ ns.length ≤ 4000 ∧ ∀ n, Card ns n → R (nD n) ρ1)
    (hg : Gl X "len" := by rfl) (hg2 : Gl X "set" := by rfl) (hc : X.calm = true := by rfl) (na : starEach [a] X.env = (false, eval a X.env) :: starEach [] X.env := by rfl) : JE X (.Call (.Name "len" p) [.Call (.Name "set" p2) [a] [] q] [] pos) ρ R :=
  j_lenSet hm hm2 (h.imp fun d ρ1 ⟨ns, e, hz, q⟩ => ⟨ns.map kN, by rw [e, keysN], by rw [List.length_map]; exact hz, fun L nd hL => by
    obtain ⟨m, rfl, nm, hm⟩ := set_back (fun _ _ => kN_inj) nd hL
    have := q m.length ⟨m, nm, hm, rfl⟩
    rw [List.length_map]
    exact this⟩) hg hg2 hc na
end
section
variable {P : Program} {w : World} {K : PySem.W.Frag} {mg : Str → Option Value} {base : Heap}
def sSplit : FS := fun as R => ∃ steps sm c, as = [.val (.lst (steps.map rowD)), .val (.lst (sm.map nD)), .val (.dK (clsD sm c))] ∧ StepsOk steps ∧ (∀ p ∈ sm, p < steps.length) ∧ (∀ p ∈ sm, ∀ q ∈ sm, stepOf steps p q ∈ sm) ∧ sm.Nodup ∧ sm.length ≤ 100 ∧
  ∀ c', (∀ s ∈ sm, ∀ t ∈ sm, c' s = c' t ↔ sig steps sm c s = sig steps sm c t) → R (.dK (clsD sm c')) []
theorem d_split_once (M : Names mg) (h : Has K mg "split_once" (top 47) ["steps", "some", "classes"]) : DefOk P w K mg base "split_once" 1 sSplit := by
  refine def_D h ["steps", "some", "classes", "marks", "turned", "state", "ahead", "other", "beneath"] ⟨rfl, rfl, rfl, by decide +kernel, rfl, by decide +kernel, by decide +kernel⟩ (fun as R ⟨_, _, _, e, _⟩ => by subst e; rfl) fun f cdv A outer s H E as R hr hu nd ⟨steps, sm, c, e, ok, hb, hcl, hnd, h100, q⟩ => ?_
  subst e
  have hz := szl
  refine s_cons (t_asgN 3 (n_dN ?_) nd)
  refine s_cons (t_asgN 4 (n_dK ?_) nd)
  refine s_cons (t_for (i_lst (j_nm 1 rfl ⟨_, rfl, fun i ρ => ∃ (MK : List Sig) (c' : Nat → Nat) (d5 d6 d8 : Slot), MK.Nodup ∧ MK.length ≤ i ∧ (∀ s ∈ sm.take i, MK[c' s]? = Option.some (sig steps sm c s)) ∧
    ρ = [.val (.lst (steps.map rowD)), .val (.lst (sm.map nD)), .val (.dK (clsD sm c)), .own none (.dN (numsG sigK MK)), .own none (.dK (clsD (sm.take i) c')), d5, d6, .un, d8], ⟨[], c, _, _, _, List.nodup_nil, Nat.le_refl _, fun s h => by simp at h, rfl⟩, fun i d ρ hd ⟨MK, c', _, _, _, hM, hl, hs, e⟩ => ?_, fun ρ ⟨MK, c', _, _, _, hM, hl, hs, e⟩ => ?_⟩)))
  · subst e
    obtain ⟨s, hx, rfl⟩ := mget hd
    have hm := List.mem_of_getElem? hx
    have hi := lt_of_get hx
    have hsn := not_take hnd hx
    have step : ∀ {a b : Nat}, a ∈ sm → b ∈ sm → ∃ r, L2.atI (steps.map rowD) (a : Int) = Option.some (rowD r) ∧ L2.atI (r.map nD) (b : Int) = Option.some (nD (stepOf steps a b)) := fun {a b} ha hb' => by
      obtain ⟨r, e1, _, e2, _⟩ := step_at ok.rows (hb a ha) (hb b hb')
      exact ⟨r, atI_map e1, atI_map e2⟩
    refine g_nm 5 ?_ nd
    refine s_cons (t_asg 6 (j_ty "tuple" M.tuple (by decide +kernel) (a_cons (v_val (j_comp [("other", 7)] sm nD (fun _ => true) (fun o => nD (c (stepOf steps s o))) (i_lst (j_nm 1 rfl ⟨_, rfl, ⟨rfl, rfl⟩⟩)) (by omega) (fun o ho => turn_id fun _ _ _ _ _ => b_nm 7 (fun _ _ _ _ _ => by
      obtain ⟨r, e1, e2⟩ := step hm ho
      exact (j_ix (v_val (j_nm 2 rfl (j_ix (v_val (j_ix (v_val (j_nm 0 rfl (j_nm 5 rfl ⟨_, rfl, xd_lst e1 (j_nm 7 rfl ⟨_, rfl, xd_lst e2 ⟨_, rfl, xd_dKi (by exact hu) (clsD_at (hcl s hm o ho)) ⟨rfl, rfl⟩⟩⟩)⟩)))))))))) (by decide) nd) (a_nil ⟨_, rfl, kd_tupL ?_⟩) nd (blk ["steps", "some", "classes", "marks", "turned", "state", "ahead", "other", "beneath"] (defScope (top 47)) (by decide +kernel)))))) nd)
    rw [filt_true]
    refine s_cons (t_asg 8 (j_ty "tuple" M.tuple (by decide +kernel) (a_cons (v_val (j_comp [("other", 7)] sm nD (fun _ => true) (fun o => nD (c (stepOf steps o s))) (i_lst (j_nm 1 rfl ⟨_, rfl, ⟨rfl, rfl⟩⟩)) (by omega) (fun o ho => turn_id fun _ _ _ _ _ => b_nm 7 (fun _ _ _ _ _ => by
      obtain ⟨r, e1, e2⟩ := step ho hm
      exact (j_ix (v_val (j_nm 2 rfl (j_ix (v_val (j_ix (v_val (j_nm 0 rfl (j_nm 7 rfl ⟨_, rfl, xd_lst e1 (j_nm 5 rfl ⟨_, rfl, xd_lst e2 ⟨_, rfl, xd_dKi (by exact hu) (clsD_at (hcl o ho s hm)) ⟨rfl, rfl⟩⟩⟩)⟩)))))))))) (by decide) nd) (a_nil ⟨_, rfl, kd_tupL ?_⟩) nd (blk ["steps", "some", "classes", "marks", "turned", "state", "ahead", "other", "beneath"] (defScope (top 47)) (by decide +kernel)))))) nd)
    rw [filt_true]
    have ek : nkD (sigK (sig steps sm c s)) = .tup [nD (c s), .tup (sm.map fun o => nD (c (stepOf steps s o))), .tup (sm.map fun o => nD (c (stepOf steps o s)))] := by
      rw [sigK_d]
      unfold sig
      rw [List.map_map, List.map_map]
      rfl
    have fin : ∀ (MK2 : List Sig) (j : Nat), MK2.Nodup → MK2.length ≤ i + 1 → (∀ (k : Nat) (g : Sig), MK[k]? = Option.some g → MK2[k]? = Option.some g) → MK2[j]? = Option.some (sig steps sm c s) →
        ∀ t ∈ sm.take (i + 1), MK2[if t = s then j else c' t]? = Option.some (sig steps sm c t) := fun MK2 j _ _ hext hj t ht => by
      by_cases e : t = s
      · rw [if_pos e, hj, e]
      · rw [if_neg e]
        rw [take_snoc hx] at ht
        rcases List.mem_append.mp ht with ht | ht
        · exact hext _ _ (hs t ht)
        · exact absurd (by simpa using ht) e
    refine s_cons (t_sub 4 (j_setd 3 hu rfl ⟨_, rfl⟩ (j_tup (l_cons (j_ix (v_val (j_nm 2 rfl (j_nm 5 rfl ⟨_, rfl, xd_dKi hu (clsD_at hm) (l_cons (j_nm 6 rfl (l_cons (j_nm 8 rfl (l_nil (j_blt "len" M.len (by decide +kernel) (a_cons (v_own 3 rfl (a_nil ⟨_, rfl, kd_lenN ⟨sigK (sig steps sm c s), _, _, ek, sigK_depth _, ⟨_, rfl⟩, rfl, by rw [numsG_len]; omega, fun d' hd' => ⟨_, _, rfl, (j_nm 5 rfl ⟨_, _, rfl, wd_dKi hu ?_ ?_⟩)⟩, fun hnone => ⟨_, _, rfl, (j_nm 5 rfl ⟨_, _, rfl, wd_dKi hu ?_ ?_⟩)⟩⟩⟩)))))))))⟩))))))))
    · unfold clsD; rw [List.length_map, List.length_take]; omega
    · have hin : sig steps sm c s ∈ MK := by
        by_cases hin : sig steps sm c s ∈ MK
        · exact hin
        · rw [numsG_none fun z => by obtain ⟨x, hx, e⟩ := List.mem_map.mp z; exact hin (sigK_inj e ▸ hx)] at hd'
          cases hd'
      obtain ⟨j, hj⟩ := List.getElem?_of_mem hin
      have hv := numsG_at (nodup_map (fun _ _ => sigK_inj) hM) hj
      rw [hv] at hd'
      cases hd'
      refine s_nil ⟨MK, fun x => if x = s then j else c' x, .val (nD s), .val (.tup (sm.map fun o => nD (c (stepOf steps s o)))), .val (.tup (sm.map fun o => nD (c (stepOf steps o s)))), hM, by omega, fin MK j hM (by omega) (fun k g h => h) hj, ?_⟩
      rw [show (Sum.inl ((s : Nat) : Int) : Key) = kN s from rfl, clsD_put hsn, take_snoc hx]
      rfl
    · unfold clsD; rw [List.length_map, List.length_take]; omega
    · have hnin : sig steps sm c s ∉ MK := fun hin => by
        obtain ⟨j, hj⟩ := List.getElem?_of_mem hin
        rw [numsG_at (nodup_map (fun _ _ => sigK_inj) hM) hj] at hnone
        cases hnone
      refine s_nil ⟨MK ++ [sig steps sm c s], fun x => if x = s then MK.length else c' x, .val (nD s), .val (.tup (sm.map fun o => nD (c (stepOf steps s o)))), .val (.tup (sm.map fun o => nD (c (stepOf steps o s)))), ?_, by rw [List.length_append, List.length_singleton]; omega, fin _ _ ?_ (by rw [List.length_append, List.length_singleton]; omega) (fun k g h => ?_) (by simp), ?_⟩
      · rw [List.nodup_append]
        exact ⟨hM, by simp, fun a ha b hb e => hnin (by simp at hb; rw [← hb, ← e]; exact ha)⟩
      · rw [List.nodup_append]
        exact ⟨hM, by simp, fun a ha b hb e => hnin (by simp at hb; rw [← hb, ← e]; exact ha)⟩
      · rw [List.getElem?_append_left (lt_of_get h)]; exact h
      · rw [show (Sum.inl ((s : Nat) : Int) : Key) = kN s from rfl, numsG_len, show (Dt.int ((MK.length : Nat) : Int)) = nD MK.length from rfl, clsD_put hsn, take_snoc hx, numsG_snoc, putD_new (by rw [numsG_keys]; intro z; obtain ⟨x, hx, e⟩ := List.mem_map.mp z; exact hnin (sigK_inj e ▸ hx))]
        rfl
  · subst e
    rw [List.length_map, List.take_length] at hs ⊢
    refine s_freeze 4 rfl (s_cons (t_ret (j_nm 4 rfl ⟨_, rfl, q c' fun s h1 t h2 => ?_⟩)))
    constructor
    · intro e
      have e1 := hs s h1
      have e2 := hs t h2
      rw [e, e2] at e1
      exact (Option.some.inj e1).symm
    · intro e
      have e1 := hs s h1
      have e2 := hs t h2
      rw [← e] at e2
      exact nodup_at hM e1 e2
def sClasses : FS := fun as R => ∃ M sm, as = [.val (encM M), .val (.lst (sm.map nD))] ∧ WfM M ∧ Found M sm ∧ ∀ c, Classes M sm c → R (.dK (clsD sm c)) []
theorem d_classes_of_states (M : Names mg) (D : DefOk P w K mg base "split_once" 1 sSplit) (h : Has K mg "classes_of_states" (top 48) ["machine", "some"]) : DefOk P w K mg base "classes_of_states" 2 sClasses := by
  refine def_D h ["machine", "some", "classes", "state", "many"] ⟨rfl, rfl, rfl, by decide +kernel, rfl, by decide +kernel, by decide +kernel⟩ (fun as R ⟨_, _, e, _⟩ => by subst e; rfl) fun f cdv A outer s H E as R hr hu nd ⟨N, sm, e, wf, hf, q⟩ => ?_
  subst e
  have hz := szl
  have h100 := hf.few wf
  have hcl := hf.closed wf
  have h00 := hf.zero wf
  refine s_cons (t_asgN 2 (n_dK ?_) nd)
  refine s_cons (t_for (i_lst (j_nm 1 rfl ⟨_, rfl, fun i ρ => ∃ (d3 : Slot), ρ = [.val (encM N), .val (.lst (sm.map nD)), .own none (.dK (clsD (sm.take i) (g0 N))), d3, .un], ⟨_, rfl⟩, fun i d ρ hd ⟨_, e⟩ => ?_, fun ρ ⟨_, e⟩ => ?_⟩)))
  · subst e
    obtain ⟨s, hx, rfl⟩ := mget hd
    have hi := lt_of_get hx
    have hsn := not_take hf.asc.nodup hx
    refine g_nm 3 ?_ nd
    refine s_cons (t_sub 2 (j_ty "int" M.int (by decide +kernel) (a_cons (v_val (j_cmp (j_nm 3 rfl (v_val (j_ix (v_val (j_nm 0 rfl (j_int ⟨_, rfl, xd_tup rfl ⟨_, rfl, cd_inN (a_nil ⟨_, rfl, kd_intB ⟨_, _, rfl, (j_nm 3 rfl ⟨_, _, rfl, wd_dKi hu ?_ ?_⟩)⟩⟩)⟩⟩)))))))))))
    · unfold clsD; rw [List.length_map, List.length_take]; omega
    refine s_nil ⟨.val (nD s), ?_⟩
    have e1 : Dt.int (if decide (s ∈ N.good) = true then 1 else 0) = nD (g0 N s) := by
      unfold g0
      by_cases q : s ∈ N.good
      · rw [if_pos q, if_pos (by simpa using q)]; rfl
      · rw [if_neg q, if_neg (by simpa using q)]; rfl
    rw [e1, show (Sum.inl ((s : Nat) : Int) : Key) = kN s from rfl, clsD_put hsn, take_snoc hx]
    rw [clsD_congr (c := fun x => if x = s then g0 N s else g0 N x) (c' := g0 N) fun x _ => by
      show (if x = s then g0 N s else g0 N x) = g0 N x
      split
      · rename_i e; rw [e]
      · rfl]
    rfl
  · subst e
    rw [List.length_map, List.take_length]
    refine s_freeze 2 rfl ?_
    refine s_cons (t_asg 4 (j_int ?_) nd)
    refine s_cons (t_while (fun m ρ => ∃ (c : Nat → Nat) (many : Nat) (d3 : Slot), m = 200 - many ∧ many ≤ 100 ∧ Round N sm c many ∧ ρ = [.val (encM N), .val (.lst (sm.map nD)), .val (.dK (clsD sm c)), d3, .val (nD many)]) ⟨200, g0 N, 0, _, rfl, by omega, .first N sm, rfl⟩ fun m ρ ⟨c, many, _, em, hm, I, e⟩ => ?_)
    subst e
    have look : ∀ (n : Nat), Card (sm.map c) n → n ≤ 100 := fun n hn => by
      have := hn.le
      rw [List.length_map] at this
      omega
    refine (jt_cmp (j_lenSetN M.len M.set (j_comp [("state", 3)] sm nD (fun _ => true) (fun s => nD (c s)) (i_lst (j_nm 1 rfl ⟨_, rfl, ⟨rfl, rfl⟩⟩)) (by omega) (fun s hs => turn_id fun _ _ _ _ _ => b_nm 3 (fun _ _ _ _ _ => (j_ix (v_val (j_nm 2 rfl (j_nm 3 rfl ⟨_, rfl, xd_dKi (by exact hu) (clsD_at hs) ⟨rfl, rfl⟩⟩))))) (by decide) nd) ⟨sm.map c, by rw [filt_true, List.map_map]; rfl, by rw [List.length_map]; omega, fun n hn => (v_val (j_nm 4 rfl ⟨_, rfl, cd_gt ⟨fun h => ?_, fun h => ?_⟩⟩))⟩ nd (blk ["machine", "some", "classes", "state", "many"] (defScope (top 48)) (by decide +kernel)))))
    · have hlt : many < n := by have := of_decide_eq_true h; omega
      have hn100 := look n hn
      refine s_cons (t_asg 4 (j_lenSetN M.len M.set (j_comp [("state", 3)] sm nD (fun _ => true) (fun s => nD (c s)) (i_lst (j_nm 1 rfl ⟨_, rfl, ⟨rfl, rfl⟩⟩)) (by omega) (fun s hs => turn_id fun _ _ _ _ _ => b_nm 3 (fun _ _ _ _ _ => (j_ix (v_val (j_nm 2 rfl (j_nm 3 rfl ⟨_, rfl, xd_dKi (by exact hu) (clsD_at hs) ⟨rfl, rfl⟩⟩))))) (by decide) nd) ⟨sm.map c, by rw [filt_true, List.map_map]; rfl, by rw [List.length_map]; omega, fun n2 hn2 => ?_⟩ nd (blk ["machine", "some", "classes", "state", "many"] (defScope (top 48)) (by decide +kernel)))) nd)
      have : n2 = n := hn2.unique hn
      subst this
      refine s_cons (t_asg 2 (j_call D hr (a_cons (v_val (j_ix (v_val (j_nm 0 rfl (j_int ⟨_, rfl, xd_tup rfl (a_cons (v_val (j_nm 1 rfl (a_cons (v_val (j_nm 2 rfl (a_nil ⟨_, rfl, nd0, ⟨N.steps, sm, c, rfl, wf.steps, fun p hp => ((hf.iff p).mp hp).1, hcl, hf.asc.nodup, h100, fun c' hc' => ?_⟩⟩)))))))⟩))))))) nd)
      exact s_nil ⟨200 - n2, by omega, c', n2, _, rfl, hn100, I.next hcl hn hc', rfl⟩
    · have hle : n ≤ many := by have := of_decide_eq_false h; omega
      exact s_cons (t_ret (j_nm 2 rfl ⟨_, rfl, q c (I.done hcl h00 hn hle)⟩))
end
end DL

set_option Elab.async false
set_option linter.all false
set_option maxRecDepth 100000
set_option autoImplicit false
set_option maxHeartbeats 4000000
/-! E21: first comings and the least machine (plain). -/
namespace DL
open PySem PySem.Spec L2
def lay (c : Nat → Nat) (o : List Nat) (s : Nat) : List Nat := if c s ∈ o.map c then o else o ++ [s]
def layStep (steps : List (List Nat)) (c : Nat → Nat) (k : Nat) (o : List Nat) (j : Nat) : List Nat :=
  lay c (lay c o (stepOf steps (o.getD j 0) (o.getD k 0))) (stepOf steps ((lay c o (stepOf steps (o.getD j 0) (o.getD k 0))).getD k 0) ((lay c o (stepOf steps (o.getD j 0) (o.getD k 0))).getD j 0))
def turnC (steps : List (List Nat)) (c : Nat → Nat) (k : Nat) (o : List Nat) : List Nat := (List.range k).foldl (fun o i => layStep steps c k o (i + 1)) o
def fcs (steps : List (List Nat)) (c : Nat → Nat) : Nat → Nat → List Nat → List Nat
  | 0, _, o => o
  | f + 1, k, o => if k < o.length then fcs steps c f (k + 1) (turnC steps c k o) else o
def order0 (M : Mach) (c : Nat → Nat) : List Nat := M.starts.foldl (fun o x => lay c o x.2) [0]
def orderOf (M : Mach) (c : Nat → Nat) : List Nat := fcs M.steps c 200 1 (order0 M c)
def num (c : Nat → Nat) (o : List Nat) (s : Nat) : Nat := o.findIdx fun p => decide (c p = c s)
def leastM (M : Mach) (c : Nat → Nat) (o : List Nat) : Mach :=
  ⟨(M.starts.map fun x => (x.1, num c o x.2)).filter fun x => !decide (x.2 = 0), o.map fun p => o.map fun q => num c o (M.δ p q), (List.range o.length).filter fun k => decide (o.getD k 0 ∈ M.good)⟩
/-! ### what an order is -/
structure OInv (sm : List Nat) (c : Nat → Nat) (o : List Nat) : Prop where
  head : o[0]? = some 0
  nd : (o.map c).Nodup
  sub : ∀ s ∈ o, s ∈ sm
section
variable {sm : List Nat} {c : Nat → Nat} {o : List Nat}
theorem OInv.one (c : Nat → Nat) (h0 : 0 ∈ sm) : OInv sm c [0] := ⟨rfl, by simp, fun s h => by simp at h; rw [h]; exact h0⟩
theorem lay_pre (c : Nat → Nat) (o : List Nat) (s : Nat) : ∃ x, lay c o s = o ++ x := by
  unfold lay
  split
  · exact ⟨[], by simp⟩
  · exact ⟨[s], rfl⟩
theorem lay_get {i p s : Nat} (h : o[i]? = some p) : (lay c o s)[i]? = some p := by
  obtain ⟨x, e⟩ := lay_pre c o s
  rw [e, List.getElem?_append_left (lt_of_get h), h]
theorem lay_mem (c : Nat → Nat) (o : List Nat) (s : Nat) : c s ∈ (lay c o s).map c := by
  unfold lay
  split
  · assumption
  · simp
theorem lay_keep {x s : Nat} (h : x ∈ o.map c) : x ∈ (lay c o s).map c := by
  obtain ⟨y, e⟩ := lay_pre c o s
  rw [e, List.map_append]
  exact List.mem_append_left _ h
theorem OInv.lay (h : OInv sm c o) {s : Nat} (hs : s ∈ sm) : OInv sm c (lay c o s) := by
  refine ⟨lay_get h.head, ?_, fun x hx => ?_⟩
  · unfold DL.lay
    split
    · exact h.nd
    · rename_i n
      rw [List.map_append, List.nodup_append]
      exact ⟨h.nd, by simp, fun a ha b hb e => n (by simp at hb; rw [← hb, ← e]; exact ha)⟩
  · unfold DL.lay at hx
    split at hx
    · exact h.sub x hx
    · rcases List.mem_append.mp hx with hx | hx
      · exact h.sub x hx
      · have : x = s := by simpa using hx
        rw [this]; exact hs
theorem OInv.nodup (h : OInv sm c o) : o.Nodup := nodup_of_map h.nd
theorem OInv.le (h : OInv sm c o) : o.length ≤ sm.length := le_of_sub h.nodup h.sub
theorem OInv.getD (h : OInv sm c o) (h0 : 0 ∈ sm) (k : Nat) : o.getD k 0 ∈ sm := by
  rw [List.getD_eq_getElem?_getD]
  cases q : o[k]? with
  | none => exact h0
  | some p => exact h.sub p (List.mem_of_getElem? q)
theorem getD_of {l : List Nat} {k p : Nat} (h : l[k]? = some p) : l.getD k 0 = p := by
  rw [List.getD_eq_getElem?_getD, h]; rfl
end
section
variable {M : Mach} {sm : List Nat} {c : Nat → Nat} (wf : WfM M) (hf : Found M sm)
include wf hf
theorem layStep_inv {k j : Nat} {o : List Nat} (h : OInv sm c o) : OInv sm c (layStep M.steps c k o j) := by
  have h0 := hf.zero wf
  have hcl := hf.closed wf
  have h1 : OInv sm c (lay c o (stepOf M.steps (o.getD j 0) (o.getD k 0))) := h.lay (hcl _ (h.getD h0 j) _ (h.getD h0 k))
  exact h1.lay (hcl _ (h1.getD h0 k) _ (h1.getD h0 j))
theorem fold_layStep_inv {k : Nat} : ∀ (l : List Nat) {o : List Nat}, OInv sm c o → OInv sm c (l.foldl (fun o i => layStep M.steps c k o (i + 1)) o)
  | [], _, h => h
  | i :: l, _, h => fold_layStep_inv l (layStep_inv wf hf h)
theorem turnC_inv {k : Nat} {o : List Nat} (h : OInv sm c o) : OInv sm c (turnC M.steps c k o) := fold_layStep_inv wf hf _ h
theorem order0_inv : OInv sm c (order0 M c) := by
  have key : ∀ (l : List (Str × Nat)) (o : List Nat), (∀ x ∈ l, x.2 ∈ sm) → OInv sm c o → OInv sm c (l.foldl (fun o x => lay c o x.2) o) := by
    intro l
    induction l with
    | nil => intro o _ h; exact h
    | cons x l ih => intro o hl h; exact ih _ (fun y hy => hl y (List.mem_cons_of_mem _ hy)) (h.lay (hl x List.mem_cons_self))
  refine key _ _ (fun x hx => ?_) (.one c (hf.zero wf))
  exact (hf.iff _).mpr ⟨(wf.starts.lab x hx).2.2, .inr ⟨.node x.1 "" [], by rw [run_leaf, start_some wf.starts.nd hx]⟩⟩
theorem fcs_inv : ∀ (f k : Nat) {o : List Nat}, OInv sm c o → OInv sm c (fcs M.steps c f k o)
  | 0, _, _, h => h
  | f + 1, k, o, h => by
    rw [fcs]
    split
    · exact fcs_inv f (k + 1) (turnC_inv wf hf h)
    · exact h
theorem orderOf_inv : OInv sm c (orderOf M c) := fcs_inv wf hf _ _ (order0_inv wf hf)
/-! the order is closed under steps -/
omit wf hf in
theorem layStep_get {steps : List (List Nat)} {k j i p : Nat} {o : List Nat} (h : o[i]? = some p) : (layStep steps c k o j)[i]? = some p := lay_get (lay_get h)
omit wf hf in
theorem fold_get {steps : List (List Nat)} {k i p : Nat} : ∀ (l : List Nat) {o : List Nat}, o[i]? = some p → (l.foldl (fun o i => layStep steps c k o (i + 1)) o)[i]? = some p
  | [], _, h => h
  | _ :: l, _, h => fold_get l (layStep_get h)
omit wf hf in
theorem fold_keep {steps : List (List Nat)} {k x : Nat} : ∀ (l : List Nat) {o : List Nat}, x ∈ o.map c → x ∈ (l.foldl (fun o i => layStep steps c k o (i + 1)) o).map c
  | [], _, h => h
  | _ :: l, _, h => fold_keep l (lay_keep (lay_keep h))
omit wf hf in
theorem fold_new {steps : List (List Nat)} {k pk : Nat} : ∀ (l : List Nat) {o : List Nat}, o[k]? = some pk → ∀ i ∈ l, ∀ pj, o[i + 1]? = some pj →
    c (stepOf steps pj pk) ∈ (l.foldl (fun o i => layStep steps c k o (i + 1)) o).map c ∧ c (stepOf steps pk pj) ∈ (l.foldl (fun o i => layStep steps c k o (i + 1)) o).map c
  | [], _, _, _, h, _, _ => absurd h (by simp)
  | i0 :: l, o, hk, i, hi, pj, hj => by
    rcases List.mem_cons.mp hi with e | hi
    · subst e
      have e1 := getD_of hj
      have e2 := getD_of hk
      have e3 := getD_of (lay_get (c := c) (s := stepOf steps (o.getD (i + 1) 0) (o.getD k 0)) hj)
      have e4 := getD_of (lay_get (c := c) (s := stepOf steps (o.getD (i + 1) 0) (o.getD k 0)) hk)
      refine ⟨fold_keep l (lay_keep ?_), fold_keep l ?_⟩
      · have := lay_mem c o (stepOf steps (o.getD (i + 1) 0) (o.getD k 0))
        rwa [e1, e2] at this ⊢
      · show c (stepOf steps pk pj) ∈ (layStep steps c k o (i + 1)).map c
        unfold layStep
        rw [e3, e4]
        exact lay_mem c _ _
    · exact fold_new l (layStep_get hk) i hi pj (layStep_get hj)
/-- all steps among the first k are known -/
def Known (M : Mach) (c : Nat → Nat) (k : Nat) (o : List Nat) : Prop := ∀ i j p q, 1 ≤ i → i < k → 1 ≤ j → j < k → o[i]? = some p → o[j]? = some q → c (M.δ p q) ∈ o.map c
theorem Known.turn {k : Nat} {o : List Nat} (h : Known M c k o) (hk : k < o.length) (h1 : 1 ≤ k) : Known M c (k + 1) (turnC M.steps c k o) := by
  intro i j p q hi hik hj hjk hp hq
  have ek : o[k]? = some o[k] := List.getElem?_eq_getElem hk
  have pre : ∀ {i p : Nat}, i ≤ k → (turnC M.steps c k o)[i]? = some p → o[i]? = some p := fun {i p} hik hp => by
    have e : o[i]? = some o[i] := List.getElem?_eq_getElem (by omega)
    have := fold_get (c := c) (steps := M.steps) (k := k) (List.range k) e
    have hp : (List.foldl (fun o i => layStep M.steps c k o (i + 1)) o (List.range k))[i]? = some p := hp
    rw [this] at hp
    rw [e, hp]
  have hp' := pre (by omega) hp
  have hq' := pre (by omega) hq
  by_cases ei : i = k
  · subst ei
    have := (fold_new (c := c) (steps := M.steps) (List.range i) hp' (j - 1) (List.mem_range.mpr (by omega)) q (by rw [show j - 1 + 1 = j by omega]; exact hq')).2
    exact this
  · by_cases ej : j = k
    · subst ej
      exact (fold_new (c := c) (steps := M.steps) (List.range j) hq' (i - 1) (List.mem_range.mpr (by omega)) p (by rw [show i - 1 + 1 = i by omega]; exact hp')).1
    · exact fold_keep _ (h i j p q hi (by omega) hj (by omega) hp' hq')
theorem fcs_known : ∀ (f k : Nat) {o : List Nat}, OInv sm c o → Known M c k o → 1 ≤ k → 101 ≤ f + k → ∀ i j p q, 1 ≤ i → 1 ≤ j → (fcs M.steps c f k o)[i]? = some p → (fcs M.steps c f k o)[j]? = some q → c (M.δ p q) ∈ (fcs M.steps c f k o).map c
  | 0, k, o, inv, h, h1, hfk, i, j, p, q, hi, hj, hp, hq => by
    have := inv.le
    have := hf.few wf
    rw [fcs] at hp hq ⊢
    have := lt_of_get hp
    have := lt_of_get hq
    exact h i j p q hi (by omega) hj (by omega) hp hq
  | f + 1, k, o, inv, h, h1, hfk, i, j, p, q, hi, hj, hp, hq => by
    rw [fcs] at hp hq ⊢
    split at hp
    · rename_i hk
      rw [if_pos hk] at hq
      rw [if_pos hk]
      exact fcs_known f (k + 1) (turnC_inv wf hf inv) (Known.turn wf hf h hk h1) (by omega) (by omega) i j p q hi hj hp hq
    · rename_i hk
      rw [if_neg hk] at hq
      rw [if_neg hk]
      have := lt_of_get hp
      have := lt_of_get hq
      exact h i j p q hi (by omega) hj (by omega) hp hq
omit wf hf in
theorem fcs_keep {steps : List (List Nat)} {x : Nat} : ∀ (f k : Nat) {o : List Nat}, x ∈ o.map c → x ∈ (fcs steps c f k o).map c
  | 0, _, _, h => h
  | f + 1, k, o, h => by
    rw [fcs]
    split
    · exact fcs_keep f (k + 1) (fold_keep _ h)
    · exact h
omit wf hf in
theorem order0_has {x : Str × Nat} (hx : x ∈ M.starts) : c x.2 ∈ (order0 M c).map c := by
  have key : ∀ (l : List (Str × Nat)) (o : List Nat), (c x.2 ∈ o.map c ∨ x ∈ l) → c x.2 ∈ (l.foldl (fun o x => lay c o x.2) o).map c := by
    intro l
    induction l with
    | nil => intro o h; exact h.resolve_right (by simp)
    | cons y l ih =>
      intro o h
      refine ih _ ?_
      rcases h with h | h
      · exact .inl (lay_keep h)
      · rcases List.mem_cons.mp h with e | h
        · subst e; exact .inl (lay_mem c o _)
        · exact .inr h
  exact key _ _ (.inr hx)
omit wf hf in
theorem mem_class {o : List Nat} {s : Nat} (h : c s ∈ o.map c) : ∃ i p : Nat, o[i]? = some p ∧ c p = c s := by
  obtain ⟨p, hp, e⟩ := List.mem_map.mp h
  obtain ⟨i, hi⟩ := List.getElem?_of_mem hp
  exact ⟨i, p, hi, e⟩
end
end DL

set_option Elab.async false
set_option linter.all false
set_option maxRecDepth 100000
set_option autoImplicit false
set_option maxHeartbeats 4000000
/-! E22: the least machine reads as its machine does; machines that read alike have equal least ones (plain). -/
namespace DL
open PySem PySem.Spec L2
theorem Eqv.refl (M : Mach) (sm : List Nat) (s : Nat) : Eqv M sm s s := ⟨fun a b => a = b, rfl, fun a b e => by rw [e], fun a b e o _ => by rw [e]; exact ⟨rfl, rfl⟩⟩
theorem starts_in {M : Mach} {sm : List Nat} (wf : WfM M) (hf : Found M sm) (l : Str) : M.start l ∈ sm :=
  (hf.iff _).mpr ⟨by
    by_cases hx : ∃ x ∈ M.starts, x.1 = l
    · obtain ⟨x, hx, rfl⟩ := hx
      rw [start_some wf.starts.nd hx]
      exact (wf.starts.lab x hx).2.2
    · rw [start_none fun x h1 e => hx ⟨x, h1, e⟩]
      exact wf.steps.n1, .inr ⟨.node l "" [], run_leaf M l⟩⟩
mutual
theorem run_in {M : Mach} {sm : List Nat} (wf : WfM M) (hf : Found M sm) : ∀ t : Tr, M.run t ∈ sm
  | .node g w ks => by rw [Mach.run]; exact runs_in wf hf ks (starts_in wf hf _)
theorem runs_in {M : Mach} {sm : List Nat} (wf : WfM M) (hf : Found M sm) : ∀ (ts : List Tr) {s : Nat}, s ∈ sm → M.runs ts s ∈ sm
  | [], _, h => by rw [Mach.runs]; exact h
  | t :: ts, _, h => by rw [Mach.runs]; exact runs_in wf hf ts (hf.closed wf _ h _ (run_in wf hf t))
end
/-- what is known of the machine, its found states, its classes, its order -/
structure Lst (M : Mach) (sm : List Nat) (c : Nat → Nat) : Prop where
  wf : WfM M
  hf : Found M sm
  hc : Classes M sm c
section
variable {M : Mach} {sm : List Nat} {c : Nat → Nat}
theorem Lst.inv (L : Lst M sm c) : OInv sm c (orderOf M c) := orderOf_inv L.wf L.hf
theorem Lst.congr (L : Lst M sm c) {p q p' q' : Nat} (hp : p ∈ sm) (hq : q ∈ sm) (hp' : p' ∈ sm) (hq' : q' ∈ sm) (e1 : c p = c p') (e2 : c q = c q') : c (M.δ p q) = c (M.δ p' q') := by
  have hcl := L.hf.closed L.wf
  have a := (((L.hc p hp p' hp').mp e1).step hq).1
  have b := (((L.hc q hq q' hq').mp e2).step hp').2
  exact ((L.hc _ (hcl p hp q hq) _ (hcl p' hp' q hq)).mpr a).trans ((L.hc _ (hcl p' hp' q hq) _ (hcl p' hp' q' hq')).mpr b)
theorem Lst.step_has (L : Lst M sm c) {s u : Nat} (hs : s ∈ sm) (hu : u ∈ sm) (h1 : c s ∈ (orderOf M c).map c) (h2 : c u ∈ (orderOf M c).map c) : c (M.δ s u) ∈ (orderOf M c).map c := by
  have inv := L.inv
  have h0 := L.hf.zero L.wf
  have c0 : c 0 ∈ (orderOf M c).map c := List.mem_map.mpr ⟨0, List.mem_of_getElem? inv.head, rfl⟩
  obtain ⟨i, p, hi, e1⟩ := mem_class h1
  obtain ⟨j, q, hj, e2⟩ := mem_class h2
  have hp := inv.sub p (List.mem_of_getElem? hi)
  have hq := inv.sub q (List.mem_of_getElem? hj)
  rw [L.congr hs hu hp hq e1.symm e2.symm]
  by_cases ei : i = 0
  · subst ei
    rw [inv.head] at hi; cases hi
    rw [show M.δ 0 q = 0 from (L.wf.steps.dead q).1]
    exact c0
  · by_cases ej : j = 0
    · subst ej
      rw [inv.head] at hj; cases hj
      rw [show M.δ p 0 = 0 from (L.wf.steps.dead p).2]
      exact c0
    · refine fcs_known L.wf L.hf 200 1 (order0_inv L.wf L.hf) ?_ (by omega) (by omega) i j p q (by omega) (by omega) hi hj
      intro i j p q h1 h2
      omega
theorem Lst.start_has (L : Lst M sm c) (l : Str) : c (M.start l) ∈ (orderOf M c).map c := by
  have inv := L.inv
  by_cases hx : ∃ x ∈ M.starts, x.1 = l
  · obtain ⟨x, hx, rfl⟩ := hx
    rw [start_some L.wf.starts.nd hx]
    exact fcs_keep _ _ (order0_has hx)
  · rw [start_none fun x h1 e => hx ⟨x, h1, e⟩]
    exact List.mem_map.mpr ⟨0, List.mem_of_getElem? inv.head, rfl⟩
mutual
theorem Lst.run_has (L : Lst M sm c) : ∀ t : Tr, c (M.run t) ∈ (orderOf M c).map c
  | .node g w ks => by rw [Mach.run]; exact Lst.runs_has L ks (starts_in L.wf L.hf _) (L.start_has _)
theorem Lst.runs_has (L : Lst M sm c) : ∀ (ts : List Tr) {s : Nat}, s ∈ sm → c s ∈ (orderOf M c).map c → c (M.runs ts s) ∈ (orderOf M c).map c
  | [], _, _, h => by rw [Mach.runs]; exact h
  | t :: ts, _, hs, h => by
    rw [Mach.runs]
    exact Lst.runs_has L ts (L.hf.closed L.wf _ hs _ (run_in L.wf L.hf t)) (L.step_has hs (run_in L.wf L.hf t) h (Lst.run_has L t))
end
theorem Lst.has (L : Lst M sm c) {s : Nat} (hs : s ∈ sm) : c s ∈ (orderOf M c).map c := by
  rcases ((L.hf.iff s).mp hs).2 with e | ⟨t, e⟩
  · subst e
    exact List.mem_map.mpr ⟨0, List.mem_of_getElem? L.inv.head, rfl⟩
  · rw [← e]; exact L.run_has t
end
theorem num_lt {c : Nat → Nat} {o : List Nat} {s : Nat} (h : c s ∈ o.map c) : num c o s < o.length := by
  obtain ⟨p, hp, e⟩ := List.mem_map.mp h
  exact List.findIdx_lt_length_of_exists ⟨p, hp, by simpa using e⟩
theorem num_get {c : Nat → Nat} {o : List Nat} {s : Nat} (h : c s ∈ o.map c) : ∃ p, o[num c o s]? = some p ∧ c p = c s := by
  have hl := num_lt h
  refine ⟨o[num c o s], List.getElem?_eq_getElem hl, ?_⟩
  have := List.findIdx_getElem (p := fun p => decide (c p = c s)) (w := hl)
  exact of_decide_eq_true this
theorem num_of {c : Nat → Nat} {o : List Nat} (nd : (o.map c).Nodup) {i p s : Nat} (h : o[i]? = some p) (e : c p = c s) : num c o s = i := by
  have hin : c s ∈ o.map c := List.mem_map.mpr ⟨p, List.mem_of_getElem? h, e⟩
  obtain ⟨q, hq, eq⟩ := num_get hin
  exact nodup_at nd (x := c s) (by rw [List.getElem?_map, hq]; exact congrArg some eq) (by rw [List.getElem?_map, h]; exact congrArg some e)
theorem num_eq {c : Nat → Nat} {o : List Nat} {s t : Nat} (e : c s = c t) : num c o s = num c o t := by unfold num; rw [e]
section
variable {M : Mach} {sm : List Nat} {c : Nat → Nat} (L : Lst M sm c)
include L
theorem Lst.num0 : num c (orderOf M c) 0 = 0 := num_of L.inv.nd L.inv.head rfl
theorem Lst.delta {i j p q : Nat} (hi : (orderOf M c)[i]? = some p) (hj : (orderOf M c)[j]? = some q) : (leastM M c (orderOf M c)).δ i j = num c (orderOf M c) (M.δ p q) := by
  show stepOf ((orderOf M c).map fun p => (orderOf M c).map fun q => num c (orderOf M c) (M.δ p q)) i j = _
  unfold stepOf
  rw [List.getD_eq_getElem?_getD, List.getD_eq_getElem?_getD, List.getElem?_map, hi]
  simp [hj]
theorem Lst.deltaN {s u : Nat} (hs : s ∈ sm) (hu : u ∈ sm) : (leastM M c (orderOf M c)).δ (num c (orderOf M c) s) (num c (orderOf M c) u) = num c (orderOf M c) (M.δ s u) := by
  obtain ⟨p, hp, e1⟩ := num_get (L.has hs)
  obtain ⟨q, hq, e2⟩ := num_get (L.has hu)
  rw [L.delta hp hq]
  exact num_eq (L.congr (L.inv.sub p (List.mem_of_getElem? hp)) (L.inv.sub q (List.mem_of_getElem? hq)) hs hu e1 e2)
theorem Lst.startsMem {x : Str × Nat} : x ∈ (leastM M c (orderOf M c)).starts ↔ x.2 ≠ 0 ∧ x.2 = num c (orderOf M c) (M.start x.1) := by
  unfold leastM
  rw [List.mem_filter, List.mem_map]
  constructor
  · rintro ⟨⟨y, hy, rfl⟩, h⟩
    have h : num c (orderOf M c) y.2 ≠ 0 := by simpa using h
    refine ⟨h, ?_⟩
    show num c (orderOf M c) y.2 = num c (orderOf M c) (M.start y.1)
    rw [start_some L.wf.starts.nd hy]
  · rintro ⟨h1, h2⟩
    by_cases hx : ∃ y ∈ M.starts, y.1 = x.1
    · obtain ⟨y, hy, e⟩ := hx
      rw [← e, start_some L.wf.starts.nd hy] at h2
      exact ⟨⟨y, hy, Prod.ext e h2.symm⟩, by simpa using h1⟩
    · rw [start_none fun y hy e => hx ⟨y, hy, e⟩, L.num0] at h2
      exact absurd h2 h1
theorem Lst.startsAsc : Asc leP (leastM M c (orderOf M c)).starts ∧ ((leastM M c (orderOf M c)).starts.map (·.1)).Nodup := by
  have nd : ((M.starts.map fun x => (x.1, num c (orderOf M c) x.2)).map (·.1)).Nodup := by
    rw [List.map_map]
    exact L.wf.starts.nd
  have asc : (M.starts.map fun x => (x.1, num c (orderOf M c) x.2)).Pairwise fun a b => leP a b = true ∧ a ≠ b := by
    rw [List.pairwise_map]
    have h1 := L.wf.starts.asc
    have h2 := L.wf.starts.nd
    rw [List.Nodup, List.pairwise_map] at h2
    refine (h1.and h2).imp fun {a b} ⟨⟨q1, _⟩, q2⟩ => ⟨?_, fun e => q2 (Prod.mk.inj e).1⟩
    unfold leP at q1 ⊢
    rw [if_neg q2] at q1
    rw [if_neg q2]
    exact q1
  exact ⟨List.Pairwise.filter _ asc, (List.Sublist.map _ List.filter_sublist).nodup nd⟩
theorem Lst.goodMem {k : Nat} : k ∈ (leastM M c (orderOf M c)).good ↔ ∃ p, (orderOf M c)[k]? = some p ∧ p ∈ M.good := by
  unfold leastM
  rw [List.mem_filter, List.mem_range, decide_eq_true_eq]
  constructor
  · rintro ⟨h1, h2⟩
    have e := List.getElem?_eq_getElem h1
    rw [getD_of e] at h2
    exact ⟨_, e, h2⟩
  · rintro ⟨p, h1, h2⟩
    exact ⟨lt_of_get h1, by rw [getD_of h1]; exact h2⟩
theorem Lst.n : (leastM M c (orderOf M c)).n = (orderOf M c).length := by unfold Mach.n leastM; simp
theorem Lst.wfM : WfM (leastM M c (orderOf M c)) := by
  have inv := L.inv
  have hn := L.n
  have hpos := lt_of_get inv.head
  have hcl := L.hf.closed L.wf
  have out : ∀ {i j : Nat}, (orderOf M c).length ≤ i ∨ (orderOf M c).length ≤ j → (leastM M c (orderOf M c)).δ i j = 0 := fun {i j} h => by
    unfold Mach.δ stepOf leastM
    show ((List.map _ (orderOf M c)).getD i []).getD j 0 = 0
    rw [List.getD_eq_getElem?_getD, List.getD_eq_getElem?_getD, List.getElem?_map]
    cases e : (orderOf M c)[i]? with
    | none => rfl
    | some p =>
      have := lt_of_get e
      have e2 : (orderOf M c)[j]? = none := List.getElem?_eq_none (by omega)
      simp [e2]
  refine ⟨⟨?_, ?_, ?_, ?_, fun q => ?_⟩, ⟨fun x hx => ?_, L.startsAsc.1, L.startsAsc.2, ?_⟩, ⟨fun k hk => ?_, asc_range _ _⟩⟩
  · show 1 ≤ (leastM M c (orderOf M c)).n; omega
  · show (leastM M c (orderOf M c)).n ≤ 100
    have := inv.le
    have := L.hf.few L.wf
    omega
  · intro r hr
    show r.length = (leastM M c (orderOf M c)).n
    obtain ⟨p, _, rfl⟩ := List.mem_map.mp hr
    rw [hn, List.length_map]
  · intro r hr x hx
    show x < (leastM M c (orderOf M c)).n
    obtain ⟨p, hp, rfl⟩ := List.mem_map.mp hr
    obtain ⟨q, hq, rfl⟩ := List.mem_map.mp hx
    rw [hn]
    exact num_lt (L.has (hcl p (inv.sub p hp) q (inv.sub q hq)))
  · refine ⟨?_, ?_⟩
    · show (leastM M c (orderOf M c)).δ 0 q = 0
      cases e : (orderOf M c)[q]? with
      | none => exact out (.inr (List.getElem?_eq_none_iff.mp e))
      | some p =>
        rw [L.delta inv.head e, show M.δ 0 p = 0 from (L.wf.steps.dead p).1]
        exact L.num0
    · show (leastM M c (orderOf M c)).δ q 0 = 0
      cases e : (orderOf M c)[q]? with
      | none => exact out (.inl (List.getElem?_eq_none_iff.mp e))
      | some p =>
        rw [L.delta e inv.head, show M.δ p 0 = 0 from (L.wf.steps.dead p).2]
        exact L.num0
  · obtain ⟨h1, h2⟩ := (L.startsMem).mp hx
    have hlab : isLab x.1 := by
      obtain ⟨y, hy, e⟩ := List.mem_map.mp (List.mem_filter.mp hx).1
      have := (L.wf.starts.lab y hy).1
      rw [← e]; exact this
    exact ⟨hlab, by omega, by rw [hn, h2]; exact num_lt (L.start_has _)⟩
  · have h1 := List.length_filter_le (fun x : Str × Nat => !decide (x.2 = 0)) (M.starts.map fun x => (x.1, num c (orderOf M c) x.2))
    rw [List.length_map] at h1
    exact Nat.le_trans h1 L.wf.starts.few
  · obtain ⟨p, h1, h2⟩ := (L.goodMem).mp hk
    refine ⟨?_, by rw [hn]; exact lt_of_get h1⟩
    by_cases e : k = 0
    · subst e
      rw [inv.head] at h1; cases h1
      have := (L.wf.good.bd 0 h2).1
      omega
    · omega
theorem Lst.start (l : Str) : (leastM M c (orderOf M c)).start l = num c (orderOf M c) (M.start l) := by
  by_cases h : num c (orderOf M c) (M.start l) = 0
  · rw [h]
    refine start_none fun x hx e => ?_
    obtain ⟨h1, h2⟩ := (L.startsMem).mp hx
    rw [e, h] at h2
    exact h1 h2
  · exact start_some (x := (l, num c (orderOf M c) (M.start l))) L.startsAsc.2 (L.startsMem.mpr ⟨h, rfl⟩)
mutual
theorem Lst.run : ∀ t : Tr, (leastM M c (orderOf M c)).run t = num c (orderOf M c) (M.run t)
  | .node g w ks => by
    rw [Mach.run, Mach.run, L.start]
    exact Lst.runs ks (starts_in L.wf L.hf _)
theorem Lst.runs : ∀ (ts : List Tr) {s : Nat}, s ∈ sm → (leastM M c (orderOf M c)).runs ts (num c (orderOf M c) s) = num c (orderOf M c) (M.runs ts s)
  | [], _, _ => by rw [Mach.runs, Mach.runs]
  | t :: ts, _, hs => by
    rw [Mach.runs, Mach.runs, Lst.run t, L.deltaN hs (run_in L.wf L.hf t)]
    exact Lst.runs ts (L.hf.closed L.wf _ hs _ (run_in L.wf L.hf t))
end
/-- the least machine admits what its machine admits -/
theorem Lst.reads (t : Tr) : (leastM M c (orderOf M c)).run t ∈ (leastM M c (orderOf M c)).good ↔ M.run t ∈ M.good := by
  rw [L.run, L.goodMem]
  have hin := run_in L.wf L.hf t
  obtain ⟨p, hp, e⟩ := num_get (L.has hin)
  have hps := L.inv.sub p (List.mem_of_getElem? hp)
  have hg := ((L.hc p hps _ hin).mp e).good
  constructor
  · rintro ⟨q, h1, h2⟩
    rw [hp] at h1; cases h1
    exact hg.mp h2
  · intro h
    exact ⟨p, hp, hg.mpr h⟩
end
end DL

set_option Elab.async false
set_option linter.all false
set_option maxRecDepth 100000
set_option autoImplicit false
set_option maxHeartbeats 4000000
/-! E23: machines that read alike have equal least machines (plain). -/
namespace DL
open PySem PySem.Spec L2
theorem lab_empty : ¬ isLab "" := fun h => by
  have e : ("" : Str).length = 0 := by decide +kernel
  rcases h with h | ⟨t, h, e2⟩
  · have := tag_len h; omega
  · have := congrArg Str.length e2
    rw [len_colon, e] at this
    omega
/-- two machines: the states of one tree -/
def Tw (M1 M2 : Mach) (p q : Nat) : Prop := ∃ t, M1.run t = p ∧ M2.run t = q
theorem start_empty {M : Mach} (wf : WfM M) : M.start "" = 0 := start_none fun x hx e => lab_empty (e ▸ (wf.starts.lab x hx).1)
theorem Tw.zero {M1 M2 : Mach} (w1 : WfM M1) (w2 : WfM M2) : Tw M1 M2 0 0 := ⟨.node "" "" [], by rw [run_leaf, start_empty w1], by rw [run_leaf, start_empty w2]⟩
theorem Tw.start (M1 M2 : Mach) (l : Str) : Tw M1 M2 (M1.start l) (M2.start l) := ⟨.node l "" [], run_leaf M1 l, run_leaf M2 l⟩
theorem run_node (M : Mach) (g w : Str) (ks : List Tr) (u : Tr) : M.run (.node g w (ks ++ [u])) = M.δ (M.run (.node g w ks)) (M.run u) := by
  rw [Mach.run, Mach.run, runs_app, Mach.runs, Mach.runs]
  rfl
theorem Tw.step {M1 M2 : Mach} {p q p' q' : Nat} (h : Tw M1 M2 p q) (h' : Tw M1 M2 p' q') : Tw M1 M2 (M1.δ p p') (M2.δ q q') := by
  obtain ⟨⟨g, w, ks⟩, rfl, rfl⟩ := h
  obtain ⟨u, rfl, rfl⟩ := h'
  exact ⟨.node g w (ks ++ [u]), run_node M1 g w ks u, run_node M2 g w ks u⟩
theorem Tw.flip {M1 M2 : Mach} {p q : Nat} (h : Tw M1 M2 p q) : Tw M2 M1 q p := by
  obtain ⟨t, a, b⟩ := h
  exact ⟨t, b, a⟩
theorem tw_eqv {M1 M2 : Mach} {sm1 sm2 : List Nat} (w1 : WfM M1) (w2 : WfM M2) (f1 : Found M1 sm1) (f2 : Found M2 sm2) (h : ∀ t, M1.run t ∈ M1.good ↔ M2.run t ∈ M2.good) {p q p' q' : Nat} (t1 : Tw M1 M2 p q) (t2 : Tw M1 M2 p' q') (e : Eqv M1 sm1 p p') : Eqv M2 sm2 q q' := by
  obtain ⟨E, e1, e2, e3⟩ := e
  have tg : ∀ {a b}, Tw M1 M2 a b → (a ∈ M1.good ↔ b ∈ M2.good) := fun {a b} ⟨t, x, y⟩ => by rw [← x, ← y]; exact h t
  refine ⟨fun a b => ∃ a' b', Tw M1 M2 a' a ∧ Tw M1 M2 b' b ∧ E a' b', ⟨p, p', t1, t2, e1⟩, fun a b ⟨a', b', x, y, z⟩ => (tg x).symm.trans ((e2 a' b' z).trans (tg y)), fun a b ⟨a', b', x, y, z⟩ o ho => ?_⟩
  obtain ⟨o', t3, ho'⟩ : ∃ o', Tw M1 M2 o' o ∧ o' ∈ sm1 := by
    rcases ((f2.iff o).mp ho).2 with e | ⟨t, e⟩
    · exact ⟨0, e ▸ Tw.zero w1 w2, f1.zero w1⟩
    · exact ⟨M1.run t, ⟨t, rfl, e⟩, run_in w1 f1 t⟩
  have := e3 a' b' z o' ho'
  exact ⟨⟨_, _, x.step t3, y.step t3, this.1⟩, ⟨_, _, t3.step x, t3.step y, this.2⟩⟩
/-- lists of the same length, alike at each place -/
inductive Pw (R : Nat → Nat → Prop) : List Nat → List Nat → Prop
  | nil : Pw R [] []
  | cons {p q : Nat} {l m : List Nat} : R p q → Pw R l m → Pw R (p :: l) (q :: m)
theorem Pw.len {R : Nat → Nat → Prop} {l m : List Nat} (h : Pw R l m) : l.length = m.length := by
  induction h with
  | nil => rfl
  | cons _ _ ih => rw [List.length_cons, List.length_cons, ih]
theorem Pw.snoc {R : Nat → Nat → Prop} {l m : List Nat} {p q : Nat} (h : Pw R l m) (h1 : R p q) : Pw R (l ++ [p]) (m ++ [q]) := by
  induction h with
  | nil => exact .cons h1 .nil
  | cons h2 _ ih => exact .cons h2 ih
theorem Pw.getD {R : Nat → Nat → Prop} (h0 : R 0 0) {l m : List Nat} (h : Pw R l m) : ∀ k, R (l.getD k 0) (m.getD k 0) := by
  induction h with
  | nil => intro k; simpa using h0
  | cons h1 _ ih =>
    intro k
    cases k with
    | zero => simpa using h1
    | succ k => simpa using ih k
theorem Pw.map_eq {α : Type} {R : Nat → Nat → Prop} {l m : List Nat} {f g : Nat → α} (h : Pw R l m) (hf : ∀ p q, R p q → f p = g q) : l.map f = m.map g := by
  induction h with
  | nil => rfl
  | cons h1 _ ih => rw [List.map_cons, List.map_cons, hf _ _ h1, ih]
theorem Pw.mem {R : Nat → Nat → Prop} {c1 c2 : Nat → Nat} {p q : Nat} {l m : List Nat} (h : Pw R l m) (hc : ∀ a b, R a b → (c1 a = c1 p ↔ c2 b = c2 q)) : c1 p ∈ l.map c1 ↔ c2 q ∈ m.map c2 := by
  induction h with
  | nil => simp
  | cons h1 _ ih =>
    rw [List.map_cons, List.map_cons, List.mem_cons, List.mem_cons, ih]
    have := hc _ _ h1
    constructor
    · rintro (e | e)
      · exact .inl (this.mp e.symm).symm
      · exact .inr e
    · rintro (e | e)
      · exact .inl (this.mpr e.symm).symm
      · exact .inr e
theorem Pw.num {R : Nat → Nat → Prop} {c1 c2 : Nat → Nat} {p q : Nat} {l m : List Nat} (h : Pw R l m) (hc : ∀ a b, R a b → (c1 a = c1 p ↔ c2 b = c2 q)) : DL.num c1 l p = DL.num c2 m q := by
  unfold DL.num
  induction h with
  | nil => rfl
  | cons h1 _ ih =>
    rw [List.findIdx_cons, List.findIdx_cons, ih, decide_eq_decide.mpr (hc _ _ h1)]
section
variable {M1 M2 : Mach} {c1 c2 : Nat → Nat} (hc : ∀ p q p' q', Tw M1 M2 p q → Tw M1 M2 p' q' → (c1 p = c1 p' ↔ c2 q = c2 q')) (h0 : Tw M1 M2 0 0)
include hc h0
theorem lay_tw {o1 o2 : List Nat} {p q : Nat} (h : Pw (Tw M1 M2) o1 o2) (t : Tw M1 M2 p q) : Pw (Tw M1 M2) (lay c1 o1 p) (lay c2 o2 q) := by
  unfold lay
  have := h.mem (c1 := c1) (c2 := c2) fun a b r => hc a b p q r t
  by_cases e : c1 p ∈ o1.map c1
  · rw [if_pos e, if_pos (this.mp e)]; exact h
  · rw [if_neg e, if_neg fun z => e (this.mpr z)]; exact h.snoc t
theorem layStep_tw {o1 o2 : List Nat} {k j : Nat} (h : Pw (Tw M1 M2) o1 o2) : Pw (Tw M1 M2) (layStep M1.steps c1 k o1 j) (layStep M2.steps c2 k o2 j) := by
  have h1 := lay_tw hc h0 h ((h.getD h0 j).step (h.getD h0 k))
  exact lay_tw hc h0 h1 ((h1.getD h0 k).step (h1.getD h0 j))
theorem turn_tw {k : Nat} : ∀ (l : List Nat) {o1 o2 : List Nat}, Pw (Tw M1 M2) o1 o2 → Pw (Tw M1 M2) (l.foldl (fun o i => layStep M1.steps c1 k o (i + 1)) o1) (l.foldl (fun o i => layStep M2.steps c2 k o (i + 1)) o2)
  | [], _, _, h => h
  | _ :: l, _, _, h => turn_tw l (layStep_tw hc h0 h)
theorem fcs_tw : ∀ (f k : Nat) {o1 o2 : List Nat}, Pw (Tw M1 M2) o1 o2 → Pw (Tw M1 M2) (fcs M1.steps c1 f k o1) (fcs M2.steps c2 f k o2)
  | 0, _, _, _, h => h
  | f + 1, k, o1, o2, h => by
    rw [fcs, fcs, h.len]
    split
    · exact fcs_tw f (k + 1) (turn_tw hc h0 _ h)
    · exact h
end
/-! ### the starts, over all labels -/
theorem fold_labels {M : Mach} {c : Nat → Nat} (wf : WfM M) {U : List Str} (asc : Asc leS U) (hU : ∀ x ∈ M.starts, x.1 ∈ U) : order0 M c = U.foldl (fun o l => lay c o (M.start l)) [0] := by
  -- the starts are the labels that have one, in order
  have sasc : Asc leS (M.starts.map (·.1)) := by
    unfold Asc
    rw [List.pairwise_map]
    have h2 := wf.starts.nd
    rw [List.Nodup, List.pairwise_map] at h2
    refine (wf.starts.asc.and h2).imp fun {a b} ⟨⟨q1, _⟩, q2⟩ => ⟨?_, q2⟩
    unfold leP at q1
    rw [if_neg q2] at q1
    exact q1
  have e1 : M.starts.map (·.1) = U.filter fun l => decide (l ∈ M.starts.map (·.1)) := by
    refine asc_unique ordS sasc (asc.filter _) fun l => ?_
    rw [List.mem_filter, decide_eq_true_eq]
    constructor
    · intro h
      obtain ⟨x, hx, rfl⟩ := List.mem_map.mp h
      exact ⟨hU x hx, h⟩
    · exact fun h => h.2
  have e2 : order0 M c = (M.starts.map (·.1)).foldl (fun o l => lay c o (M.start l)) [0] := by
    unfold order0
    rw [List.foldl_map]
    have key : ∀ (l : List (Str × Nat)) (o : List Nat), (∀ x ∈ l, x ∈ M.starts) → l.foldl (fun o x => lay c o x.2) o = l.foldl (fun o x => lay c o (M.start x.1)) o := by
      intro l
      induction l with
      | nil => intro o _; rfl
      | cons x l ih =>
        intro o h
        rw [List.foldl_cons, List.foldl_cons, start_some wf.starts.nd (h x List.mem_cons_self), ih _ fun y hy => h y (List.mem_cons_of_mem _ hy)]
    exact key _ _ fun x h => h
  rw [e2, e1]
  have key : ∀ (l : List Str) (o : List Nat), c 0 ∈ o.map c → (l.filter fun l => decide (l ∈ M.starts.map (·.1))).foldl (fun o l => lay c o (M.start l)) o = l.foldl (fun o l => lay c o (M.start l)) o := by
    intro l
    induction l with
    | nil => intro o _; rfl
    | cons x l ih =>
      intro o h
      rw [List.filter_cons]
      by_cases hx : x ∈ M.starts.map (·.1)
      · rw [if_pos (by simpa using hx), List.foldl_cons, List.foldl_cons]
        exact ih _ (lay_keep h)
      · rw [if_neg (by simpa using hx), List.foldl_cons]
        have : M.start x = 0 := start_none fun y hy e => hx (List.mem_map.mpr ⟨y, hy, e⟩)
        rw [this]
        have e3 : lay c o 0 = o := by unfold lay; rw [if_pos h]
        rw [e3]
        exact ih _ h
  rw [← e1]
  rw [e1]
  exact key U [0] (by simp)
theorem least_eq {M1 M2 : Mach} {sm1 sm2 : List Nat} {c1 c2 : Nat → Nat} (La : Lst M1 sm1 c1) (Lb : Lst M2 sm2 c2) (h : ∀ t, M1.run t ∈ M1.good ↔ M2.run t ∈ M2.good) : leastM M1 c1 (orderOf M1 c1) = leastM M2 c2 (orderOf M2 c2) := by
  have h0 := Tw.zero La.wf Lb.wf
  have twin1 : ∀ {p q}, Tw M1 M2 p q → p ∈ sm1 := fun {p q} ⟨t, e, _⟩ => e ▸ run_in La.wf La.hf t
  have twin2 : ∀ {p q}, Tw M1 M2 p q → q ∈ sm2 := fun {p q} ⟨t, _, e⟩ => e ▸ run_in Lb.wf Lb.hf t
  have hc : ∀ p q p' q', Tw M1 M2 p q → Tw M1 M2 p' q' → (c1 p = c1 p' ↔ c2 q = c2 q') := fun p q p' q' t1 t2 => by
    rw [La.hc p (twin1 t1) p' (twin1 t2), Lb.hc q (twin2 t1) q' (twin2 t2)]
    exact ⟨tw_eqv La.wf Lb.wf La.hf Lb.hf h t1 t2, tw_eqv Lb.wf La.wf Lb.hf La.hf (fun t => (h t).symm) t1.flip t2.flip⟩
  -- all labels
  let U : List Str := (M1.starts.map (·.1) ++ (M2.starts.map (·.1)).filter fun l => !decide (l ∈ M1.starts.map (·.1))).mergeSort leS
  have ascU : Asc leS U := by
    refine asc_sort ordS ?_
    rw [List.nodup_append]
    refine ⟨La.wf.starts.nd, List.filter_sublist.nodup Lb.wf.starts.nd, fun a ha b hb e => ?_⟩
    have := (List.mem_filter.mp hb).2
    rw [← e] at this
    simp at this
    obtain ⟨x, hx, e⟩ := List.mem_map.mp ha
    exact this x.2 (by rw [← e]; exact hx)
  have memU : ∀ l, l ∈ U ↔ l ∈ M1.starts.map (·.1) ∨ l ∈ M2.starts.map (·.1) := fun l => by
    show l ∈ List.mergeSort _ _ ↔ _
    rw [mem_sort, List.mem_append, List.mem_filter]
    constructor
    · rintro (a | a)
      · exact .inl a
      · exact .inr a.1
    · rintro (a | a)
      · exact .inl a
      · by_cases q : l ∈ M1.starts.map (·.1)
        · exact .inl q
        · exact .inr ⟨a, by simpa using q⟩
  have ord : Pw (Tw M1 M2) (orderOf M1 c1) (orderOf M2 c2) := by
    refine fcs_tw hc h0 200 1 ?_
    rw [fold_labels La.wf ascU fun x hx => (memU _).mpr (.inl (List.mem_map.mpr ⟨x, hx, rfl⟩)), fold_labels Lb.wf ascU fun x hx => (memU _).mpr (.inr (List.mem_map.mpr ⟨x, hx, rfl⟩))]
    have key : ∀ (l : List Str) {o1 o2 : List Nat}, Pw (Tw M1 M2) o1 o2 → Pw (Tw M1 M2) (l.foldl (fun o l => lay c1 o (M1.start l)) o1) (l.foldl (fun o l => lay c2 o (M2.start l)) o2) := by
      intro l
      induction l with
      | nil => intro o1 o2 h; exact h
      | cons x l ih => intro o1 o2 h; exact ih (lay_tw hc h0 h (Tw.start M1 M2 x))
    exact key U (.cons h0 .nil)
  have nm : ∀ {p q}, Tw M1 M2 p q → num c1 (orderOf M1 c1) p = num c2 (orderOf M2 c2) q := fun {p q} t => ord.num fun a b r => hc a b p q r t
  have e1 : (leastM M1 c1 (orderOf M1 c1)).starts = (leastM M2 c2 (orderOf M2 c2)).starts := by
    refine asc_unique ordP La.startsAsc.1 Lb.startsAsc.1 fun x => ?_
    rw [La.startsMem, Lb.startsMem, nm (Tw.start M1 M2 x.1)]
  have e2 : (leastM M1 c1 (orderOf M1 c1)).steps = (leastM M2 c2 (orderOf M2 c2)).steps :=
    ord.map_eq fun p q t => ord.map_eq fun p' q' t' => nm (t.step t')
  have e3 : (leastM M1 c1 (orderOf M1 c1)).good = (leastM M2 c2 (orderOf M2 c2)).good := by
    unfold leastM
    show List.filter _ _ = List.filter _ _
    rw [ord.len]
    refine List.filter_congr fun k _ => decide_eq_decide.mpr ?_
    obtain ⟨t, a, b⟩ := ord.getD h0 k
    rw [← a, ← b]
    exact h t
  have ext : ∀ {A B : Mach}, A.starts = B.starts → A.steps = B.steps → A.good = B.good → A = B := fun {A B} a b c => by
    cases A; cases B
    simp at a b c
    rw [a, b, c]
  exact ext e1 e2 e3
/-- what least_machine hands back for M -/
def Least (M M' : Mach) : Prop := ∃ sm c, Lst M sm c ∧ M' = leastM M c (orderOf M c)
theorem Least.reads {M M' : Mach} (h : Least M M') (t : Tr) : M'.run t ∈ M'.good ↔ M.run t ∈ M.good := by
  obtain ⟨sm, c, L, rfl⟩ := h
  exact L.reads t
theorem Least.eq {M1 M2 A B : Mach} (h1 : Least M1 A) (h2 : Least M2 B) (h : ∀ t, M1.run t ∈ M1.good ↔ M2.run t ∈ M2.good) : A = B := by
  obtain ⟨_, _, La, rfl⟩ := h1
  obtain ⟨_, _, Lb, rfl⟩ := h2
  exact least_eq La Lb h
end DL

set_option Elab.async false
set_option linter.all false
set_option maxRecDepth 100000
set_option autoImplicit false
set_option maxHeartbeats 4000000
/-! E24: lay_class, first_comings, least_machine. -/
namespace DL
open PySem PySem.Spec L2
abbrev numsC (c : Nat → Nat) (o : List Nat) : List (Key × Dt) := numsG (fun s => kN (c s)) o
theorem numsC_nd {c : Nat → Nat} {o : List Nat} (nd : (o.map c).Nodup) : (o.map fun s => kN (c s)).Nodup := by
  have : (o.map fun s => kN (c s)) = (o.map c).map kN := by rw [List.map_map]; rfl
  rw [this]
  exact nodup_map (fun _ _ => kN_inj) nd
theorem numsC_none {c : Nat → Nat} {o : List Nat} {s : Nat} (h : c s ∉ o.map c) : valD (numsC c o) (kN (c s)) = none := by
  refine numsG_none fun hm => ?_
  obtain ⟨x, hx, e⟩ := List.mem_map.mp hm
  exact h (List.mem_map.mpr ⟨x, hx, kN_inj e⟩)
theorem numsC_num {c : Nat → Nat} {o : List Nat} {s : Nat} (nd : (o.map c).Nodup) (h : c s ∈ o.map c) : valD (numsC c o) (kN (c s)) = some (nD (num c o s)) := by
  obtain ⟨p, hp, e⟩ := num_get h
  have := numsG_at (f := fun s => kN (c s)) (numsC_nd nd) hp
  rw [← e]
  exact this
theorem ord_at {o : List Nat} {k : Nat} (h : k < o.length) : o[k]? = some (o.getD k 0) := by
  rw [List.getD_eq_getElem?_getD, List.getElem?_eq_getElem h]; rfl
section
variable {P : Program} {w : World} {K : PySem.W.Frag} {mg : Str → Option Value} {base : Heap}
def sLay : FS := fun as R => ∃ sm c o s, as = [.own (.lst (o.map nD)), .own (.dK (numsC c o)), .val (.dK (clsD sm c)), .val (nD s)] ∧ s ∈ sm ∧ (o.map c).Nodup ∧ o.length ≤ 200 ∧ R .non [.lst ((lay c o s).map nD), .dK (numsC c (lay c o s))]
theorem d_lay_class (M : Names mg) (h : Has K mg "lay_class" (top 49) ["order", "numbers", "classes", "state"]) : DefOk P w K mg base "lay_class" 1 sLay := by
  refine def_D h ["order", "numbers", "classes", "state"] ⟨rfl, rfl, rfl, by decide +kernel, rfl, by decide +kernel, by decide +kernel⟩ (fun as R ⟨_, _, _, _, e, _⟩ => by subst e; rfl) fun f cdv A outer s H E as R hr hu nd ⟨sm, c, o, s, e, hs, hn, hl, q⟩ => ?_
  subst e
  have hz := szl
  refine s_cons (t_ifJ (fun ρ => ρ = [.own (some 0) (.lst ((lay c o s).map nD)), .own (some 1) (.dK (numsC c (lay c o s))), .val (.dK (clsD sm c)), .val (nD s)]) _ (jt_cmp (j_ix (v_val (j_nm 2 rfl (j_nm 3 rfl ⟨_, rfl, xd_dKi hu (clsD_at hs) (v_own 1 rfl ⟨_, rfl, cd_notinKi hu ⟨rfl, rfl⟩⟩)⟩))))) (fun h => ?_) (fun h => ?_) fun ρ e => ?_)
  · have hm : c s ∉ o.map c := fun hm => by
      rw [show (Sum.inl ((c s : Nat) : Int) : Key) = kN (c s) from rfl, numsC_num hn hm] at h
      cases h
    refine s_cons (t_sub 1 (j_blt "len" M.len (by decide +kernel) (a_cons (v_own 0 rfl (a_nil ⟨_, rfl, kd_lenL ⟨_, _, rfl, (j_ix (v_val (j_nm 2 rfl (j_nm 3 rfl ⟨_, rfl, xd_dKi hu (clsD_at hs) ⟨_, _, rfl, wd_dKi hu ?_ ?_⟩⟩))))⟩⟩)))))
    · rw [numsG_len]; omega
    refine s_cons (t_append 0 rfl ⟨_, rfl⟩ (j_nm 3 rfl ⟨_, _, rfl, ?_, s_nil ?_⟩))
    · rw [List.length_map]; omega
    have el : lay c o s = o ++ [s] := by unfold lay; rw [if_neg hm]
    rw [el, show (Sum.inl ((c s : Nat) : Int) : Key) = kN (c s) from rfl, numsC, numsC, numsG_snoc, List.length_map, putD_new (by
      rw [numsG_keys]
      intro z
      obtain ⟨x, hx, e⟩ := List.mem_map.mp z
      exact hm (List.mem_map.mpr ⟨x, hx, kN_inj e⟩)), List.map_append]
    rfl
  · have hm : c s ∈ o.map c := by
      by_cases hm : c s ∈ o.map c
      · exact hm
      · rw [show (Sum.inl ((c s : Nat) : Int) : Key) = kN (c s) from rfl, numsC_none hm] at h
        cases h
    have el : lay c o s = o := by unfold lay; rw [if_pos hm]
    rw [el]
    exact s_nil rfl
  subst e
  exact s_nil ⟨_, rfl, q⟩
def sComings : FS := fun as R => ∃ M sm c, as = [.val (encM M), .val (.dK (clsD sm c))] ∧ WfM M ∧ Found M sm ∧ R (.tup [.lst ((orderOf M c).map nD), .dK (numsC c (orderOf M c))]) []
theorem d_first_comings (M : Names mg) (D : DefOk P w K mg base "lay_class" 1 sLay) (h : Has K mg "first_comings" (top 50) ["machine", "classes"]) : DefOk P w K mg base "first_comings" 2 sComings := by
  refine def_D h ["machine", "classes", "steps", "order", "numbers", "pair", "k", "j"] ⟨rfl, rfl, rfl, by decide +kernel, rfl, by decide +kernel, by decide +kernel⟩ (fun as R ⟨_, _, _, e, _⟩ => by subst e; rfl) fun f cdv A outer s H E as R hr hu nd ⟨N, sm, c, e, wf, hf, q⟩ => ?_
  subst e
  have hz := szl
  have h100 := hf.few wf
  have h0 := hf.zero wf
  have hcl := hf.closed wf
  refine s_cons (t_asg 2 (j_ix (v_val (j_nm 0 rfl (j_int ⟨_, rfl, xd_tup rfl ?_⟩)))) nd)
  refine s_cons (t_asgN 3 (n_lst (l_cons (j_int (l_nil ?_)))) nd)
  refine s_cons (t_asgN 4 (n_disp1 (j_ix (v_val (j_nm 1 rfl (j_int ⟨_, rfl, xd_dKi hu (clsD_at h0) (j_int ⟨kN (c 0), rfl, ?_⟩)⟩))))) nd)
  refine s_cons (t_for (i_lst (j_ix (v_val (j_nm 0 rfl (j_int ⟨_, rfl, xd_tup rfl ⟨_, rfl, fun i ρ => ∃ (o : List Nat) (d5 : Slot), OInv sm c o ∧ o = (N.starts.take i).foldl (fun o x => lay c o x.2) [0] ∧
    ρ = [.val (encM N), .val (.dK (clsD sm c)), .val (.lst (N.steps.map rowD)), .own none (.lst (o.map nD)), .own none (.dK (numsC c o)), d5, .un, .un], ⟨[0], _, .one c h0, by simp, rfl⟩, fun i d ρ hd ⟨o, _, inv, eo, e⟩ => ?_, fun ρ ⟨o, _, inv, eo, e⟩ => ?_⟩⟩))))))
  · subst e
    obtain ⟨x, hx, rfl⟩ := mget hd
    have hm := List.mem_of_getElem? hx
    have hxs : x.2 ∈ sm := (hf.iff _).mpr ⟨(wf.starts.lab x hm).2.2, .inr ⟨.node x.1 "" [], by rw [run_leaf, start_some wf.starts.nd hm]⟩⟩
    have hl := inv.le
    refine g_nm 5 ?_ nd
    refine s_cons (t_expr (j_call D hr (a_cons (v_own 3 rfl (a_cons (v_own 4 rfl (a_cons (v_val (j_nm 1 rfl (a_cons (v_val (j_ix (v_val (j_nm 5 rfl (j_int ⟨_, rfl, xd_tup rfl (a_nil ⟨_, rfl, nd2, ⟨sm, c, o, x.2, rfl, hxs, inv.nd, by omega, ?_⟩⟩)⟩)))))))))))))))
    exact s_nil ⟨lay c o x.2, .val (pD x), inv.lay hxs, by rw [fold_take hx, ← eo], rfl⟩
  · subst e
    rw [List.length_map, List.take_length] at eo
    have eo : o = order0 N c := eo
    refine s_cons (t_asg 6 (j_int ?_) nd)
    refine s_cons (t_while (fun m ρ => ∃ (o : List Nat) (k : Nat) (d5 d7 : Slot), m + k = 201 ∧ 1 ≤ k ∧ OInv sm c o ∧ fcs N.steps c m k o = orderOf N c ∧
      ρ = [.val (encM N), .val (.dK (clsD sm c)), .val (.lst (N.steps.map rowD)), .own none (.lst (o.map nD)), .own none (.dK (numsC c o)), d5, .val (nD k), d7]) ⟨200, o, 1, _, _, rfl, Nat.le_refl _, inv, by rw [eo]; rfl, rfl⟩ fun m ρ ⟨o, k, d5, d7, em, h1, inv, ef, e⟩ => ?_)
    subst e
    have hl := inv.le
    refine (jt_cmp (j_nm 6 rfl (v_val (j_blt "len" M.len (by decide +kernel) (a_cons (v_own 3 rfl (a_nil ⟨_, rfl, kd_lenL ⟨_, rfl, cd_lt ⟨fun h => ?_, fun h => ?_⟩⟩⟩)))))))
    · have hk : k < o.length := by
        have := of_decide_eq_true h
        rw [List.length_map] at this
        omega
      obtain ⟨m, rfl⟩ : ∃ m', m = m' + 1 := ⟨m - 1, by omega⟩
      rw [fcs, if_pos hk] at ef
      refine s_cons (t_for (i_rng2 M.range (j_int (j_bin (j_nm 6 rfl (j_int (bd_add ⟨_, _, rfl, rfl, ⟨by omega, by omega, by omega, by omega⟩, fun i ρ => ∃ (o' : List Nat) (d7 : Slot), OInv sm c o' ∧ o.length ≤ o'.length ∧ o' = ((List.range k).take i).foldl (fun o i => layStep N.steps c k o (i + 1)) o ∧
        ρ = [.val (encM N), .val (.dK (clsD sm c)), .val (.lst (N.steps.map rowD)), .own none (.lst (o'.map nD)), .own none (.dK (numsC c o')), d5, .val (nD k), d7], ⟨o, _, inv, Nat.le_refl _, by simp, rfl⟩, fun i d ρ hd ⟨o', _, inv', hlo, eo', e⟩ => ?_, fun ρ ⟨o', _, inv', hlo, eo', e⟩ => ?_⟩)))))))
      · subst e
        obtain ⟨hi, rfl⟩ := rget hd
        have hi : i < k := by omega
        have hp : (1 : Int) + (i : Int) * 1 = ((i + 1 : Nat) : Int) := by omega
        rw [hp]
        have hri : (List.range k)[i]? = some i := by rw [List.getElem?_range hi]
        have hl' := inv'.le
        have step : ∀ {o : List Nat} {a b : Nat}, OInv sm c o → a < o.length → b < o.length → ∃ r, L2.atI (o.map nD) (a : Int) = some (nD (o.getD a 0)) ∧ L2.atI (o.map nD) (b : Int) = some (nD (o.getD b 0)) ∧ L2.atI (N.steps.map rowD) ((o.getD a 0 : Nat) : Int) = some (rowD r) ∧ L2.atI (r.map nD) ((o.getD b 0 : Nat) : Int) = some (nD (stepOf N.steps (o.getD a 0) (o.getD b 0))) ∧ stepOf N.steps (o.getD a 0) (o.getD b 0) ∈ sm := fun {o a b} inv ha hb => by
          have q1 := inv.getD h0 a
          have q2 := inv.getD h0 b
          obtain ⟨r, e1, _, e2, _⟩ := step_at wf.steps.rows ((hf.iff _).mp q1).1 ((hf.iff _).mp q2).1
          exact ⟨r, atI_map (ord_at ha), atI_map (ord_at hb), atI_map e1, atI_map e2, hcl _ q1 _ q2⟩
        obtain ⟨r, a1, a2, a3, a4, a5⟩ := step (a := i + 1) (b := k) inv' (by omega) (by omega)
        refine g_nm 7 ?_ nd
        refine s_cons (t_expr (j_call D hr (a_cons (v_own 3 rfl (a_cons (v_own 4 rfl (a_cons (v_val (j_nm 1 rfl (a_cons (v_val (j_ix (v_val (j_ix (v_val (j_nm 2 rfl (j_ix (v_own 3 rfl (j_nm 7 rfl ⟨_, rfl, xd_lst a1 ⟨_, rfl, xd_lst a3 (j_ix (v_own 3 rfl (j_nm 6 rfl ⟨_, rfl, xd_lst a2 ⟨_, rfl, xd_lst a4 (a_nil ⟨_, rfl, nd2, ⟨sm, c, o', stepOf N.steps (o'.getD (i + 1) 0) (o'.getD k 0), rfl, a5, inv'.nd, by omega, ?_⟩⟩)⟩⟩)))⟩⟩)))))))))))))))))))
        have inv2 := inv'.lay a5
        have hl2 := inv2.le
        have hge : o'.length ≤ (lay c o' (stepOf N.steps (o'.getD (i + 1) 0) (o'.getD k 0))).length := by
          obtain ⟨x, e⟩ := lay_pre c o' (stepOf N.steps (o'.getD (i + 1) 0) (o'.getD k 0))
          rw [e, List.length_append]; omega
        obtain ⟨r2, b1, b2, b3, b4, b5⟩ := step (a := k) (b := i + 1) inv2 (by omega) (by omega)
        refine s_cons (t_expr (j_call D hr (a_cons (v_own 3 rfl (a_cons (v_own 4 rfl (a_cons (v_val (j_nm 1 rfl (a_cons (v_val (j_ix (v_val (j_ix (v_val (j_nm 2 rfl (j_ix (v_own 3 rfl (j_nm 6 rfl ⟨_, rfl, xd_lst b1 ⟨_, rfl, xd_lst b3 (j_ix (v_own 3 rfl (j_nm 7 rfl ⟨_, rfl, xd_lst b2 ⟨_, rfl, xd_lst b4 (a_nil ⟨_, rfl, nd2, ⟨sm, c, lay c o' (stepOf N.steps (o'.getD (i + 1) 0) (o'.getD k 0)), _, rfl, b5, inv2.nd, by omega, ?_⟩⟩)⟩⟩)))⟩⟩)))))))))))))))))))
        have inv3 := inv2.lay b5
        refine s_nil ⟨layStep N.steps c k o' (i + 1), .val (nD (i + 1)), inv3, ?_, by rw [fold_take hri, ← eo'], rfl⟩
        obtain ⟨x, e⟩ := lay_pre c (lay c o' (stepOf N.steps (o'.getD (i + 1) 0) (o'.getD k 0))) (stepOf N.steps ((lay c o' (stepOf N.steps (o'.getD (i + 1) 0) (o'.getD k 0))).getD k 0) ((lay c o' (stepOf N.steps (o'.getD (i + 1) 0) (o'.getD k 0))).getD (i + 1) 0))
        unfold layStep
        rw [e, List.length_append]
        omega
      · subst e
        have eo2 : o' = turnC N.steps c k o := by
          rw [eo', rng_len, show ((k : Int) + 1 - 1).toNat = k by omega]
          unfold turnC
          rw [List.take_of_length_le (by rw [List.length_range]; exact Nat.le_refl _)]
        rw [← eo2] at ef
        refine s_cons (t_asg 6 (j_bin (j_nm 6 rfl (j_int (bd_add ?_)))) nd)
        exact s_nil ⟨m, Nat.lt_succ_self _, o', k + 1, _, _, by omega, by omega, inv', ef, rfl⟩
    · have hk : ¬ k < o.length := by
        have := of_decide_eq_false h
        rw [List.length_map] at this
        omega
      have eo3 : o = orderOf N c := by
        rw [← ef]
        cases m with
        | zero => rw [fcs]
        | succ m => rw [fcs, if_neg hk]
      subst eo3
      exact s_freeze 3 rfl (s_freeze 4 rfl (s_cons (t_ret (j_tup (l_cons (j_nm 3 rfl (l_cons (j_nm 4 rfl (l_nil ⟨_, rfl, q⟩)))))))))
end
end DL

set_option Elab.async false
set_option linter.all false
set_option maxRecDepth 100000
set_option autoImplicit false
set_option maxHeartbeats 4000000
/-! E25: least_machine. -/
namespace DL
open PySem PySem.Spec L2
section
variable {X : Cx} {D : DEnd} {sts : List Stmt} {ρ ρ' : Env}
/-- the names, written out -/
theorem s_norm (ρ' : Env) (e : ρ = ρ') (h : JS X sts ρ' D) : JS X sts ρ D := e ▸ h
end
section
variable {P : Program} {w : World} {K : PySem.W.Frag} {mg : Str → Option Value} {base : Heap}
def sLeast : FS := fun as R => ∃ M, as = [.val (encM M)] ∧ WfM M ∧ ∀ M', WfM M' → Least M M' → R (encM M') []
theorem d_least_machine (M : Names mg) (D1 : DefOk P w K mg base "found_states" 5 sFound) (D2 : DefOk P w K mg base "classes_of_states" 2 sClasses) (D3 : DefOk P w K mg base "first_comings" 2 sComings) (D4 : DefOk P w K mg base "make_machine" 5 sMake) (h : Has K mg "least_machine" (top 51) ["machine"]) : DefOk P w K mg base "least_machine" 6 sLeast := by
  refine def_D h ["machine", "some", "classes", "order", "numbers", "starts", "label", "state", "pair", "steps", "q", "p", "good", "k"] ⟨rfl, rfl, rfl, by decide +kernel, rfl, by decide +kernel, by decide +kernel⟩ (fun as R ⟨_, e, _⟩ => by subst e; rfl) fun f cdv A outer s H E as R hr hu nd ⟨N, e, wf, q⟩ => ?_
  subst e
  have hz := szl
  have hsf := wf.starts.few
  refine s_cons (t_asg 1 (j_call D1 hr (a_cons (v_val (j_nm 0 rfl (a_nil ⟨_, rfl, nd0, ⟨N, rfl, wf, fun sm hf => ?_⟩⟩))))) nd)
  refine s_cons (t_asg 2 (j_call D2 (hr.mono (by decide)) (a_cons (v_val (j_nm 0 rfl (a_cons (v_val (j_nm 1 rfl (a_nil ⟨_, rfl, nd0, ⟨N, sm, rfl, wf, hf, fun c hc => ?_⟩⟩)))))))) nd)
  have L : Lst N sm c := ⟨wf, hf, hc⟩
  refine s_cons (t_asgG (j_call D3 (hr.mono (by decide)) (a_cons (v_val (j_nm 0 rfl (a_cons (v_val (j_nm 2 rfl (a_nil ⟨_, rfl, nd0, ⟨N, sm, c, rfl, wf, hf, (g_tup (gs_cons (g_nm 3 (gs_cons (g_nm 4 (gs_nil ?_) nd)) nd)) rfl)⟩⟩)))))))))
  have inv := L.inv
  have hle := inv.le
  have h100 := hf.few wf
  have hcl := hf.closed wf
  have hwf := L.wfM
  have hleast : Least N (leastM N c (orderOf N c)) := ⟨sm, c, L, rfl⟩
  have hhas : ∀ s ∈ sm, c s ∈ (orderOf N c).map c := fun s hs => L.has hs
  have hst : ∀ x ∈ N.starts, x.2 ∈ sm := fun x hm => (hf.iff _).mpr ⟨(wf.starts.lab x hm).2.2, .inr ⟨.node x.1 "" [], by rw [run_leaf, start_some wf.starts.nd hm]⟩⟩
  generalize orderOf N c = o at *
  refine s_norm [.val (encM N), .val (.lst (sm.map nD)), .val (.dK (clsD sm c)), .val (.lst (o.map nD)), .val (.dK (numsC c o)), .un, .un, .un, .un, .un, .un, .un, .un, .un] rfl ?_
  have step : ∀ {a b : Nat}, a ∈ o → b ∈ o → ∃ r, L2.atI (N.steps.map rowD) (a : Int) = some (rowD r) ∧ L2.atI (r.map nD) (b : Int) = some (nD (N.δ a b)) ∧ N.δ a b ∈ sm := fun {a b} ha hb => by
    have q1 := inv.sub a ha
    have q2 := inv.sub b hb
    obtain ⟨r, e1, _, e2, _⟩ := step_at wf.steps.rows ((hf.iff _).mp q1).1 ((hf.iff _).mp q2).1
    exact ⟨r, atI_map e1, atI_map e2, hcl _ q1 _ q2⟩
  refine s_cons (t_asgComp 5 [("label", 6), ("state", 7)] N.starts pD (fun _ => true) (fun x => pD (x.1, num c o x.2)) (i_lst (j_ix (v_val (j_nm 0 rfl (j_int ⟨_, rfl, xd_tup rfl ⟨_, rfl, ⟨rfl, rfl⟩⟩⟩))))) (by omega) (fun x hx => turn_id fun _ _ _ _ _ => b_two 6 7 (fun _ _ _ _ _ => (j_tup (l_cons (j_nm 6 rfl (l_cons (j_ix (v_val (j_nm 4 rfl (j_ix (v_val (j_nm 2 rfl (j_nm 7 rfl ⟨_, rfl, xd_dKi (by exact hu) (clsD_at (hst x hx)) ⟨_, rfl, xd_dKi (by exact hu) (numsC_num inv.nd (hhas _ (hst x hx))) (l_nil ⟨rfl, rfl⟩)⟩⟩)))))))))))) (by decide) (by decide) nd) ?_ nd (blk ["machine", "some", "classes", "order", "numbers", "starts", "label", "state", "pair", "steps", "q", "p", "good", "k"] (defScope (top 51)) (by decide +kernel)))
  rw [filt_true]
  refine s_freeze 5 rfl ?_
  refine s_norm [.val (encM N), .val (.lst (sm.map nD)), .val (.dK (clsD sm c)), .val (.lst (o.map nD)), .val (.dK (numsC c o)), .val (.lst (N.starts.map fun x => pD (x.1, num c o x.2))), .un, .un, .un, .un, .un, .un, .un, .un] rfl ?_
  refine s_cons (t_asgComp 5 [("pair", 8)] (N.starts.map fun x => (x.1, num c o x.2)) pD (fun x => !decide ((x.2 : Int) = 0)) pD (i_lst (j_nm 5 rfl ⟨_, rfl, ⟨by rw [List.map_map]; rfl, rfl⟩⟩)) (by rw [List.length_map]; omega) (fun x hx => turn_if _ fun _ _ _ _ _ => b_nm 8 ⟨fun _ _ _ _ _ => (jt_cmp (j_ix (v_val (j_nm 8 rfl (j_int ⟨_, rfl, xd_tup rfl (v_val (j_int ⟨_, rfl, cd_ne ⟨rfl, rfl⟩⟩))⟩))))), fun _ _ _ _ _ _ => (j_nm 8 rfl ⟨rfl, rfl⟩), fun _ => rfl⟩ (by decide) nd) ?_ nd (blk ["machine", "some", "classes", "order", "numbers", "starts", "label", "state", "pair", "steps", "q", "p", "good", "k"] (defScope (top 51)) (by decide +kernel)))
  have e1 : (N.starts.map fun x => (x.1, num c o x.2)).filter (fun x => !decide ((x.2 : Int) = 0)) = (leastM N c o).starts := by
    unfold leastM
    refine List.filter_congr fun x _ => ?_
    have : decide ((x.2 : Int) = 0) = decide (x.2 = 0) := decide_eq_decide.mpr (by omega)
    rw [this]
  rw [e1]
  refine s_freeze 5 rfl ?_
  refine s_norm [.val (encM N), .val (.lst (sm.map nD)), .val (.dK (clsD sm c)), .val (.lst (o.map nD)), .val (.dK (numsC c o)), .val (.lst ((leastM N c o).starts.map pD)), .un, .un, .un, .un, .un, .un, .un, .un] rfl ?_
  refine s_cons (t_asgComp 9 [("p", 11)] o nD (fun _ => true) (fun p => rowD (o.map fun q => num c o (N.δ p q))) (i_lst (j_nm 3 rfl ⟨_, rfl, ⟨rfl, rfl⟩⟩)) (by omega) (fun p hp => turn_id fun _ _ _ _ _ => b_nm 11 (fun _ _ _ _ _ => (j_comp [("q", 10)] o nD (fun _ => true) (fun q => nD (num c o (N.δ p q))) (i_lst (j_nm 3 rfl ⟨_, rfl, ⟨rfl, rfl⟩⟩)) (by omega) (fun q hq => turn_id fun _ _ _ _ _ => b_nm 10 (fun _ _ _ _ _ => by
    obtain ⟨r, e1, e2, e3⟩ := step hp hq
    exact (j_ix (v_val (j_nm 4 rfl (j_ix (v_val (j_nm 2 rfl (j_ix (v_val (j_ix (v_val (j_ix (v_val (j_nm 0 rfl (j_int ⟨_, rfl, xd_tup rfl (j_nm 11 rfl ⟨_, rfl, xd_lst e1 (j_nm 10 rfl ⟨_, rfl, xd_lst e2 ⟨_, rfl, xd_dKi (by exact hu) (clsD_at e3) ⟨_, rfl, xd_dKi (by exact hu) (numsC_num inv.nd (hhas _ e3)) ⟨rfl, rfl⟩⟩⟩⟩)⟩)⟩))))))))))))))) (by decide) nd) ⟨?_, rfl⟩ nd (blk ["machine", "some", "classes", "order", "numbers", "starts", "label", "state", "pair", "steps", "q", "p", "good", "k"] ⟨.function, [(".0", .local), ("p", .cell), ("classes", .cell), ("machine", .cell), ("numbers", .cell), ("order", .cell)], false, false, []⟩ (by decide +kernel)))) (by decide) nd) ?_ nd (blk ["machine", "some", "classes", "order", "numbers", "starts", "label", "state", "pair", "steps", "q", "p", "good", "k"] (defScope (top 51)) (by decide +kernel)))
  · rw [filt_true]
    unfold rowD
    rw [List.map_map]
    rfl
  rw [filt_true]
  have e2 : (o.map fun p => rowD (o.map fun q => num c o (N.δ p q))) = (leastM N c o).steps.map rowD := by
    unfold leastM
    rw [List.map_map]
    rfl
  rw [e2]
  refine s_freeze 9 rfl ?_
  refine s_norm [.val (encM N), .val (.lst (sm.map nD)), .val (.dK (clsD sm c)), .val (.lst (o.map nD)), .val (.dK (numsC c o)), .val (.lst ((leastM N c o).starts.map pD)), .un, .un, .un, .val (.lst ((leastM N c o).steps.map rowD)), .un, .un, .un, .un] rfl ?_
  refine s_cons (t_asgComp 12 [("k", 13)] (List.range o.length) nD (fun k => decide (o.getD k 0 ∈ N.good)) nD (i_rng1 M.range (j_blt "len" M.len (by decide +kernel) (a_cons (v_val (j_nm 3 rfl (a_nil ⟨_, rfl, kd_lenL ⟨_, rfl, ⟨by omega, by rw [List.length_map]; omega⟩, ⟨by rw [List.length_map]; exact rng0 _, rfl⟩⟩⟩)))))) (by rw [List.length_range]; omega) (fun k hk => turn_if _ fun _ _ _ _ _ => b_nm 13 ⟨fun _ _ _ _ _ => (jt_cmp (j_ix (v_val (j_nm 3 rfl (j_nm 13 rfl ⟨_, rfl, xd_lst (atI_map (ord_at (List.mem_range.mp hk))) (v_val (j_ix (v_val (j_nm 0 rfl (j_int ⟨_, rfl, xd_tup rfl ⟨_, rfl, cd_inN ⟨rfl, rfl⟩⟩⟩)))))⟩))))), fun _ _ _ _ _ _ => (j_nm 13 rfl ⟨rfl, rfl⟩), fun _ => rfl⟩ (by decide) nd) ?_ nd (blk ["machine", "some", "classes", "order", "numbers", "starts", "label", "state", "pair", "steps", "q", "p", "good", "k"] (defScope (top 51)) (by decide +kernel)))
  refine s_freeze 12 rfl ?_
  have hfew := hwf.starts.few
  exact s_cons (t_ret (j_call D4 hr (a_cons (v_val (j_nm 5 rfl (a_cons (v_val (j_nm 9 rfl (a_cons (v_val (j_nm 12 rfl (a_nil ⟨_, rfl, nd0, ⟨leastM N c o, rfl, hwf, hfew, ⟨_, rfl, q _ hwf hleast⟩⟩⟩))))))))))))
end
end DL

set_option Elab.async false
set_option linter.all false
set_option maxRecDepth 100000
set_option autoImplicit false
set_option maxHeartbeats 4000000
/-! E26: how a row of sets of names is read; tables, places. -/
namespace DL
open PySem PySem.Spec L2
/-- one set of names more -/
def rchS (p : Pat) (X : Nat → Prop) (N : Str → Prop) : Nat → Prop := fun j => ∃ k, X k ∧ Aft p k j ∧ N (nmOf p j)
def rch (p : Pat) (rows : List (Str → Prop)) : Nat → Prop := rows.foldl (rchS p) (· = 0)
theorem rchS_iff {p : Pat} {X X' : Nat → Prop} {N N' : Str → Prop} (h : ∀ k, X k ↔ X' k) (h2 : ∀ x, N x ↔ N' x) (j : Nat) : rchS p X N j ↔ rchS p X' N' j := by
  unfold rchS
  simp only [h, h2]
abbrev setN (l : List Str) : Str → Prop := fun x => x ∈ l
/-- a rule's table: its rows of next places -/
abbrev TabW := Rule × List (List Nat)
def twD (t : TabW) : Dt := .tup [encR t.1, .lst ((namesAt t.1.pat).map .str), .lst (((og t.1.pat).firsts.mergeSort leN).map nD), .lst (((og t.1.pat).lasts.mergeSort leN).map nD), .lst (t.2.map rowD), .bl (og t.1.pat).none]
structure TabsW (S : Schema) (ts : List TabW) : Prop where
  rules : ts.map (·.1) = liveRules S
  rows : ∀ t ∈ ts, NextRows t.1.pat t.2
theorem TabsW.mem {S : Schema} {ts : List TabW} (h : TabsW S ts) {t : TabW} (ht : t ∈ ts) : t.1 ∈ S.rules ∧ (og t.1.pat).void = false := by
  have : t.1 ∈ liveRules S := h.rules ▸ List.mem_map.mpr ⟨t, ht, rfl⟩
  obtain ⟨a, b⟩ := List.mem_filter.mp this
  exact ⟨a, by simpa using b⟩
theorem TabsW.of {S : Schema} {ts : List TabW} (h : TabsW S ts) {r : Rule} (hr : r ∈ S.rules) (hv : (og r.pat).void = false) : ∃ t ∈ ts, t.1 = r := by
  have : r ∈ ts.map (·.1) := h.rules ▸ List.mem_filter.mpr ⟨hr, by simpa using hv⟩
  exact List.mem_map.mp this
theorem TabsW.len {S : Schema} {ts : List TabW} (h : TabsW S ts) (wf : WfS S) : ts.length ≤ 5 := by
  have := congrArg List.length h.rules
  rw [List.length_map] at this
  have h2 := List.length_filter_le (fun r => !(og r.pat).void) S.rules
  have := wf.few
  unfold liveRules at *
  omega
section
variable {P : Program} {w : World} {K : PySem.W.Frag} {mg : Str → Option Value} {base : Heap}
def sTabsOf : FS := fun as R => ∃ S, as = [.val (encS S)] ∧ WfS S ∧ ∀ ts, TabsW S ts → R (.lst (ts.map twD)) []
theorem d_tables_of (M : Names mg) (D1 : DefOk P w K mg base "is_void" 62 sVoid) (D2 : DefOk P w K mg base "names_at" (30 + 1) (sNamesAt 30)) (D3 : DefOk P w K mg base "first_places" 62 sFirst) (D4 : DefOk P w K mg base "last_places" 62 sLast) (D5 : DefOk P w K mg base "next_places" 62 sNext) (D6 : DefOk P w K mg base "takes_none" 62 sNone) (h : Has K mg "tables_of" (top 53) ["schema"]) : DefOk P w K mg base "tables_of" 63 sTabsOf := by
  refine def_D h ["schema", "tables", "rule", "pattern"] ⟨rfl, rfl, rfl, by decide +kernel, rfl, by decide +kernel, by decide +kernel⟩ (fun as R ⟨_, e, _⟩ => by subst e; rfl) fun f cdv A outer s H E as R hr hu nd ⟨S, e, wf, q⟩ => ?_
  subst e
  have hz := szl
  have hfew := wf.few
  refine s_cons (t_asgN 1 (n_lst (l_nil ?_)) nd)
  refine s_cons (t_for (i_tup (j_ix (v_val (j_nm 0 rfl (j_int ⟨_, rfl, xd_tup rfl ⟨_, rfl, fun i ρ => ∃ (ts : List TabW) (d2 d3 : Slot), ts.map (·.1) = (S.rules.take i).filter (fun r => !(og r.pat).void) ∧ (∀ t ∈ ts, NextRows t.1.pat t.2) ∧
    ρ = [.val (encS S), .own none (.lst (ts.map twD)), d2, d3], ⟨[], _, _, by simp, fun t h => by simp at h, rfl⟩, fun i d ρ hd ⟨ts, _, _, h1, h2, e⟩ => ?_, fun ρ ⟨ts, _, _, h1, h2, e⟩ => ?_⟩⟩))))))
  · subst e
    obtain ⟨r, hx, rfl⟩ := mget hd
    have hm := List.mem_of_getElem? hx
    have wp := wf.pats r hm
    have hc3 := wp.cnt
    have hl : ts.length ≤ 5 := by
      have := congrArg List.length h1
      rw [List.length_map] at this
      have h2 := List.length_filter_le (fun r => !(og r.pat).void) (S.rules.take i)
      rw [List.length_take] at h2
      omega
    refine g_nm 2 ?_ nd
    refine s_cons (t_asg 3 (j_ix (v_val (j_nm 2 rfl (j_int ⟨_, rfl, xd_tup rfl ?_⟩)))) nd)
    refine s_cons (t_ifJ (fun ρ => ∃ (ts : List TabW) (d2 d3 : Slot), ts.map (·.1) = (S.rules.take (i + 1)).filter (fun r => !(og r.pat).void) ∧ (∀ t ∈ ts, NextRows t.1.pat t.2) ∧
    ρ = [.val (encS S), .own none (.lst (ts.map twD)), d2, d3]) _ (jt_not (jt_val (j_call D1 hr (a_cons (v_val (j_nm 3 rfl (a_nil ⟨_, rfl, nd0, ⟨_, rfl, wp, ⟨_, rfl, ⟨rfl, rfl⟩⟩⟩⟩))))))) (fun h => ?_) (fun h => ?_) fun ρ e => ?_)
    · have hv : (og r.pat).void = false := by simpa using h
      refine s_cons (t_append 1 rfl ⟨_, rfl⟩ (j_tup (l_cons (j_nm 2 rfl (l_cons (j_call D2 (hr.mono (by decide)) (a_cons (v_val (j_nm 3 rfl (a_nil ⟨_, rfl, nd0, ⟨_, rfl, wp.depth, by omega, (l_cons (j_call D3 hr (a_cons (v_val (j_nm 3 rfl (a_nil ⟨_, rfl, nd0, ⟨_, rfl, wp, (l_cons (j_call D4 hr (a_cons (v_val (j_nm 3 rfl (a_nil ⟨_, rfl, nd0, ⟨_, rfl, wp, (l_cons (j_call D5 hr (a_cons (v_val (j_nm 3 rfl (a_nil ⟨_, rfl, nd0, ⟨_, rfl, wp, fun rows hrows => (l_cons (j_call D6 hr (a_cons (v_val (j_nm 3 rfl (a_nil ⟨_, rfl, nd0, ⟨_, rfl, wp, (l_nil ⟨_, _, rfl, ?_, ?_⟩)⟩⟩))))))⟩⟩))))))⟩⟩))))))⟩⟩))))))⟩⟩))))))))))
      · rw [List.length_map]; omega
      refine s_nil ⟨ts ++ [(r, rows)], .val (encR r), .val (encP r.pat), ?_, fun t ht => ?_, ?_⟩
      · rw [take_snoc hx, List.filter_append, List.map_append, h1]
        simp [hv]
      · rcases List.mem_append.mp ht with ht | ht
        · exact h2 t ht
        · have : t = (r, rows) := by simpa using ht
          subst this
          exact hrows
      · rw [List.map_append]
        rfl
    · have hv : (og r.pat).void = true := by simpa using h
      refine s_nil ⟨ts, .val (encR r), .val (encP r.pat), ?_, h2, rfl⟩
      rw [take_snoc hx, List.filter_append, h1]
      simp [hv]
    exact s_nil e
  · subst e
    rw [List.length_map, List.take_length] at h1
    exact s_freeze 1 rfl (s_cons (t_ret (j_nm 1 rfl ⟨_, rfl, q ts ⟨h1, h2⟩⟩)))
def sBehindW : FS := fun as R => ∃ (t : TabW) (places : List Nat) (names : List Str), as = [.val (twD t), .val (.lst (places.map nD)), .val (.lst (names.map .str))] ∧ WfP t.1.pat ∧ NextRows t.1.pat t.2 ∧ (∀ k ∈ places, k ≤ cnt t.1.pat) ∧ places.length ≤ 100 ∧
  ∀ L, Asc leN L → (∀ j, j ∈ L ↔ rchS t.1.pat (· ∈ places) (setN names) j) → R (.lst (L.map nD)) []
theorem d_places_behind (M : Names mg) (h : Has K mg "places_behind" (top 54) ["table", "places", "names"]) : DefOk P w K mg base "places_behind" 1 sBehindW := by
  refine def_D h ["table", "places", "names", "told", "place", "ahead", "k"] ⟨rfl, rfl, rfl, by decide +kernel, rfl, by decide +kernel, by decide +kernel⟩ (fun as R ⟨_, _, _, e, _⟩ => by subst e; rfl) fun f cdv A outer s H E as R hr hu nd ⟨t, places, names, e, wp, hrows, hpl, h100, q⟩ => ?_
  subst e
  have hz := szl
  have hc3 := wp.cnt
  have h0 := rows0_of wp hrows
  refine s_cons (t_asg 3 (j_lst (l_nil ?_)) nd)
  refine s_cons (t_for (i_lst (j_nm 1 rfl ⟨_, rfl, fun i ρ => ∃ (told : List Nat) (d4 d5 : Slot), told.length ≤ 3 * i ∧ (∀ j, j ∈ told ↔ rchS t.1.pat (· ∈ places.take i) (setN names) j) ∧
    ρ = [.val (twD t), .val (.lst (places.map nD)), .val (.lst (names.map .str)), .val (.lst (told.map nD)), d4, d5, .un], ⟨[], _, _, Nat.le_refl _, fun j => by simp [rchS], rfl⟩, fun i d ρ hd ⟨told, _, _, hl, ht, e⟩ => ?_, fun ρ ⟨told, _, _, hl, ht, e⟩ => ?_⟩)))
  · subst e
    obtain ⟨k, hx, rfl⟩ := mget hd
    have hm := List.mem_of_getElem? hx
    have hk := hpl k hm
    have hi := lt_of_get hx
    have hkl : k < ((og t.1.pat).firsts.mergeSort leN :: t.2).length := by rw [h0.len]; omega
    obtain ⟨g1, g2⟩ := h0.at' k _ (List.getElem?_eq_getElem hkl)
    refine g_nm 4 ?_ nd
    refine s_cons (t_asg 5 (j_ix (v_val (j_nm 0 rfl (j_int ⟨_, rfl, xd_tup rfl ?_⟩)))) nd)
    refine s_cons (t_ifJ (fun ρ => ρ = [.val (twD t), .val (.lst (places.map nD)), .val (.lst (names.map .str)), .val (.lst (told.map nD)), .val (nD k), .val (rowD ((og t.1.pat).firsts.mergeSort leN :: t.2)[k]), .un]) _ (jt_cmp (j_nm 4 rfl (v_val (j_int ⟨_, rfl, cd_gt ⟨rfl, rfl⟩⟩)))) (fun h => ?_) (fun h => ?_) fun ρ e => ?_)
    · have hk0 : 0 < k := by have := of_decide_eq_true h; omega
      have et : t.2[k - 1]? = some ((og t.1.pat).firsts.mergeSort leN :: t.2)[k] := by
        have := List.getElem?_eq_getElem hkl
        obtain ⟨k', rfl⟩ : ∃ k', k = k' + 1 := ⟨k - 1, by omega⟩
        rw [List.getElem?_cons_succ] at this
        simpa using this
      refine s_cons (t_asg 5 (j_ix (v_val (j_ix (v_val (j_nm 0 rfl (j_int ⟨_, rfl, xd_tup rfl (j_bin (j_nm 4 rfl (j_int (bd_sub ⟨_, rfl, xd_lst (d := rowD ((og t.1.pat).firsts.mergeSort leN :: t.2)[k]) ?_ ?_⟩))))⟩)))))) nd)
      · have := atI_map (f := rowD) et
        rw [show ((k : Int) - 1) = ((k - 1 : Nat) : Int) by omega]
        exact this
      exact s_nil rfl
    · have hk0 : k = 0 := by have := of_decide_eq_false h; omega
      subst hk0
      exact s_nil rfl
    subst e
    generalize ((og t.1.pat).firsts.mergeSort leN :: t.2)[k] = r at g1 g2
    refine s_cons (t_asg 3 (j_bin (j_nm 3 rfl (j_comp [("k", 6)] r nD (fun j => decide (nmOf t.1.pat j ∈ names)) nD (i_lst (j_nm 5 rfl ⟨_, rfl, ⟨rfl, rfl⟩⟩)) (by omega) (fun j hj => turn_if _ fun _ _ _ _ _ => b_nm 6 ⟨fun _ _ _ _ _ => (jt_cmp (j_ix (v_val (j_ix (v_val (j_nm 0 rfl (j_int ⟨_, rfl, xd_tup rfl (j_bin (j_nm 6 rfl (j_int (bd_sub ⟨_, rfl, xd_lst (d := .str (nmOf t.1.pat j)) (by
      have hb := ((g1 j).mp hj).bd
      have := atI_map (f := Dt.str) (nm_at hb)
      rw [show ((j : Int) - 1) = ((j - 1 : Nat) : Int) by omega]
      exact this) (v_val (j_nm 2 rfl ⟨_, rfl, cd_inS ⟨rfl, rfl⟩⟩))⟩))))⟩))))))), fun _ _ _ _ _ _ => (j_nm 6 rfl ⟨rfl, rfl⟩), fun _ => rfl⟩ (by decide) nd) (bd_addL ?_ ?_) nd (blk ["table", "places", "names", "told", "place", "ahead", "k"] (defScope (top 54)) (by decide +kernel))))) nd)
    · have := List.length_filter_le (fun j => decide (nmOf t.1.pat j ∈ names)) r
      rw [List.length_map, List.length_map]
      omega
    rw [map_append']
    refine s_nil ⟨told ++ r.filter (fun j => decide (nmOf t.1.pat j ∈ names)), _, _, ?_, fun j => ?_, rfl⟩
    · have := List.length_filter_le (fun j => decide (nmOf t.1.pat j ∈ names)) r
      rw [List.length_append]
      omega
    · rw [List.mem_append, ht, List.mem_filter, g1, decide_eq_true_eq, take_snoc hx]
      unfold rchS
      constructor
      · rintro (⟨k', a, b⟩ | ⟨a, b⟩)
        · exact ⟨k', List.mem_append_left _ a, b⟩
        · exact ⟨k, List.mem_append_right _ (by simp), a, b⟩
      · rintro ⟨k', a, b, c⟩
        rcases List.mem_append.mp a with a | a
        · exact .inl ⟨k', a, b, c⟩
        · have : k' = k := by simpa using a
          subst this
          exact .inr ⟨b, c⟩
  · subst e
    rw [List.length_map, List.take_length] at ht
    rw [List.length_map] at hl
    exact s_cons (t_ret (j_sortedSetN hu M.sorted M.set (j_nm 3 rfl ⟨told, rfl, by omega, fun L asc hL => ⟨_, rfl, q L asc fun j => (hL j).trans (ht j)⟩⟩)))
end
end DL

set_option Elab.async false
set_option linter.all false
set_option maxRecDepth 100000
set_option autoImplicit false
set_option maxHeartbeats 4000000
/-! E27: places_of_row, ends_well, names_by. -/
namespace DL
open PySem PySem.Spec L2
def endB (p : Pat) (k : Nat) : Bool := if k = 0 then (og p).none else decide (k ∈ (og p).lasts)
theorem endB_iff {p : Pat} {k : Nat} : endB p k = true ↔ EndP p k := by
  unfold endB EndP
  split
  · exact Iff.rfl
  · exact decide_eq_true_iff
def strsD (l : List Str) : Dt := .lst (l.map .str)
theorem rch_snoc {p : Pat} {Ns : List (Str → Prop)} {N : Str → Prop} : rch p (Ns ++ [N]) = rchS p (rch p Ns) N := by
  unfold rch
  rw [List.foldl_append]
  rfl
mutual
def NmW (S : Schema) : Tr → Str → Prop
  | .node g w ks => fun x => ∃ r ∈ S.rules, r.name = x ∧ (og r.pat).void = false ∧ fits r (lab (.node g w ks)) = true ∧ ∃ j, rch r.pat (NmWs S ks) j ∧ EndP r.pat j
def NmWs (S : Schema) : List Tr → List (Str → Prop)
  | [] => []
  | t :: ts => NmW S t :: NmWs S ts
end
mutual
def Tr.depth : Tr → Nat
  | .node _ _ ks => tdepths ks + 1
def tdepths : List Tr → Nat
  | [] => 0
  | t :: ts => max t.depth (tdepths ts)
end
mutual
/-- short tags, few kids -/
def TrOk : Tr → Prop
  | .node g _ ks => g.length ≤ 1000 ∧ ks.length ≤ 1000 ∧ TrOks ks
def TrOks : List Tr → Prop
  | [] => True
  | t :: ts => TrOk t ∧ TrOks ts
end
theorem tdepth_mem {ts : List Tr} {t : Tr} (h : t ∈ ts) : t.depth ≤ tdepths ts := by
  induction ts with
  | nil => cases h
  | cons q ps ih =>
    unfold tdepths
    rcases List.mem_cons.mp h with e | h
    · subst e; exact Nat.le_max_left _ _
    · exact Nat.le_trans (ih h) (Nat.le_max_right _ _)
theorem trOk_mem {ts : List Tr} {t : Tr} (h : t ∈ ts) (ok : TrOks ts) : TrOk t := by
  induction ts with
  | nil => cases h
  | cons q ps ih =>
    unfold TrOks at ok
    rcases List.mem_cons.mp h with e | h
    · subst e; exact ok.1
    · exact ih h ok.2
theorem NmWs_eq (S : Schema) : ∀ ts : List Tr, NmWs S ts = ts.map (NmW S)
  | [] => by simp [NmWs]
  | t :: ts => by simp [NmWs, NmWs_eq S ts]
theorem rch_bd {p : Pat} {Ns : List (Str → Prop)} {j : Nat} (h : rch p Ns j) : j ≤ cnt p := by
  by_cases e : Ns = []
  · subst e
    have : j = 0 := h
    omega
  · rw [← List.dropLast_concat_getLast e, rch_snoc] at h
    obtain ⟨k, _, a, _⟩ := h
    exact a.bd.2
section
variable {X : Cx} {ρ : Env} {R : DP} {D : DEnd} {pos p : Pos} {c tg iter elt : Expr} {ifs : List Expr} {scope : Scope} {tt ff : List Stmt}
/-- a comprehension over a list that is known by its facts only -/
theorem j_compR (own : List (Str × Nat)) {α : Type} (enc : α → Dt) (p : α → Bool) (f : α → Dt) (hi : JI X tg iter ρ fun ds ρ1 => ∃ xs : List α, ds = xs.map enc ∧ ρ1 = ρ ∧ xs.length ≤ sizeLine ∧ (∀ x, x ∈ xs → TurnP X scope tg elt ifs (own.map (·.2)) (enc x) (unAt ρ (own.map (·.2))) (p x) (f x)) ∧ R (.lst ((xs.filter p).map f)) (unAt ρ (own.map (·.2))))
    (hN : X.N.Nodup) (ok : BlkOk X.N X.env.scope scope own) (hc : X.calm = true := by rfl) (hs : ∀ x, foldedSetIterable iter X.env x = pure x := by intro _; rfl) : JE X (.ListComp elt [⟨tg, iter, ifs, 0⟩] scope pos) ρ R :=
  (j_new (n_lc (R := fun d ρ' => (∃ l, d = .lst l) ∧ R d ρ') own (fun C F σ H Q r k => hi C F σ H Q r fun ds ρ1 J F1 H1 ⟨xs, ed, er, hz, ht, q⟩ e1 r1 it => k ds ρ1 J F1 H1 (comp_inv (R := fun d ρ' => (∃ l, d = .lst l) ∧ R d ρ') hz ht ⟨⟨_, rfl⟩, q⟩ ed (by rw [er])) e1 r1 it) hN ok hc hs) (fun d ρ' ⟨⟨l, e⟩, _⟩ kvs z => by rw [e] at z; cases z)).imp fun d ρ' h => h.2
theorem kd_anyE {X : Cx} {d : Dt} {bs : List Bool} {R : Dt → Prop} (e : d = .lst (bs.map Dt.bl)) (q : R (.bl (bs.any id))) (hc : X.calm = true := by rfl) : KD X (.builtin "any") [d] R := e ▸ kd_any q hc
theorem t_ifJR (M : Env → Prop) (h : JT X c ρ fun b ρ1 => (b = true → JS X tt ρ1 { nx := M, rt := D.rt }) ∧ (b = false → JS X ff ρ1 { nx := M, rt := D.rt })) (k : ∀ ρ', M ρ' → D.nx ρ') : J1 X (.If c tt ff pos) ρ D := fun C F σ H E r kk => by
  have := t_if (pos := pos) (D := { nx := M, rt := D.rt }) h
  exact this C F σ H E r ⟨fun ρ' σ' F' H' q e r' => kk.nx ρ' σ' F' H' (k ρ' q) e r', kk.rt⟩
end
section
variable {P : Program} {w : World} {K : PySem.W.Frag} {mg : Str → Option Value} {base : Heap}
def sPlaces : FS := fun as R => ∃ (t : TabW) (rows : List (List Str)), as = [.val (twD t), .val (.lst (rows.map strsD))] ∧ WfP t.1.pat ∧ NextRows t.1.pat t.2 ∧
  ∀ L : List Nat, (∀ j, j ∈ L ↔ rch t.1.pat (rows.map setN) j) → L.length ≤ 3 → R (.lst (L.map nD)) []
theorem d_places_of_row (M : Names mg) (D : DefOk P w K mg base "places_behind" 1 sBehindW) (h : Has K mg "places_of_row" (top 55) ["table", "rows"]) : DefOk P w K mg base "places_of_row" 2 sPlaces := by
  refine def_D h ["table", "rows", "places", "names"] ⟨rfl, rfl, rfl, by decide +kernel, rfl, by decide +kernel, by decide +kernel⟩ (fun as R ⟨_, _, e, _⟩ => by subst e; rfl) fun f cdv A outer s H E as R hr hu nd ⟨t, rows, e, wp, hrows, q⟩ => ?_
  subst e
  have hc3 := wp.cnt
  refine s_cons (t_asg 2 (j_lst (l_cons (j_int (l_nil ?_)))) nd)
  refine s_cons (t_for (i_lst (j_nm 1 rfl ⟨_, rfl, fun i ρ => ∃ (L : List Nat) (d3 : Slot), (∀ j, j ∈ L ↔ rch t.1.pat ((rows.take i).map setN) j) ∧ L.length ≤ 3 ∧
    ρ = [.val (twD t), .val (.lst (rows.map strsD)), .val (.lst (L.map nD)), d3], ⟨[0], _, fun j => by simp [rch], by decide, rfl⟩, fun i d ρ hd ⟨L, _, hL, hl, e⟩ => ?_, fun ρ ⟨L, _, hL, hl, e⟩ => ?_⟩)))
  · subst e
    obtain ⟨ns, hx, rfl⟩ := mget hd
    refine g_nm 3 ?_ nd
    refine s_cons (t_asg 2 (j_call D hr (a_cons (v_val (j_nm 0 rfl (a_cons (v_val (j_nm 2 rfl (a_cons (v_val (j_nm 3 rfl (a_nil ⟨_, rfl, nd0, ⟨t, L, ns, rfl, wp, hrows, fun k hk => rch_bd ((hL k).mp hk), by omega, fun L2 asc hL2 => ?_⟩⟩))))))))))) nd)
    refine s_nil ⟨L2, _, fun j => ?_, ?_, rfl⟩
    · rw [hL2, take_snoc hx, List.map_append, List.map_singleton, rch_snoc]
      exact rchS_iff hL (fun _ => Iff.rfl) j
    · have := asc_few (n := 3) asc fun j hj => by
        obtain ⟨k, _, a, _⟩ := (hL2 j).mp hj
        have := a.bd
        omega
      exact this
  · subst e
    rw [List.length_map, List.take_length] at hL
    exact s_cons (t_ret (j_nm 2 rfl ⟨_, rfl, q L hL hl⟩))
def sEnds : FS := fun as R => ∃ (t : TabW) (k : Nat), as = [.val (twD t), .val (nD k)] ∧ R (.bl (endB t.1.pat k)) []
theorem d_ends_well (M : Names mg) (h : Has K mg "ends_well" (top 56) ["table", "place"]) : DefOk P w K mg base "ends_well" 1 sEnds := by
  refine def_D h ["table", "place"] ⟨rfl, rfl, rfl, by decide +kernel, rfl, by decide +kernel, by decide +kernel⟩ (fun as R ⟨_, _, e, _⟩ => by subst e; rfl) fun f cdv A outer s H E as R hr hu nd ⟨t, k, e, q⟩ => ?_
  subst e
  unfold endB at q
  refine s_cons (t_ifB _ (jt_cmp (j_nm 1 rfl (v_val (j_int ⟨_, rfl, cd_eq ⟨rfl, rfl⟩⟩)))) (fun h => ?_) (fun h => ?_))
  · rw [if_pos (by have := of_decide_eq_true h; omega)] at q
    exact s_cons (t_ret (j_ix (v_val (j_nm 0 rfl (j_int ⟨_, rfl, xd_tup rfl ⟨_, rfl, q⟩⟩)))))
  refine s_nil ?_
  rw [if_neg (by have := of_decide_eq_false h; omega)] at q
  refine s_cons (t_ret (j_cmp (j_nm 1 rfl (v_val (j_ix (v_val (j_nm 0 rfl (j_int ⟨_, rfl, xd_tup rfl ⟨_, rfl, cd_inN ⟨_, rfl, ?_⟩⟩⟩))))))))
  rw [decide_eq_decide.mpr (mem_sort (le := leN))]
  exact q
theorem setNs_iff {p : Pat} {kids : List Tr} {rows : List (List Str)} {S : Schema} (hl : rows.length = kids.length) (h : ∀ (i : Nat) (l : List Str) (t : Tr), rows[i]? = some l → kids[i]? = some t → ∀ x, x ∈ l ↔ NmW S t x) (j : Nat) : rch p (rows.map setN) j ↔ rch p (NmWs S kids) j := by
  have key : ∀ (kids : List Tr) (rows : List (List Str)) (X Y : Nat → Prop), rows.length = kids.length → (∀ (i : Nat) (l : List Str) (t : Tr), rows[i]? = some l → kids[i]? = some t → ∀ x, x ∈ l ↔ NmW S t x) → (∀ k, X k ↔ Y k) → ∀ j, (rows.map setN).foldl (rchS p) X j ↔ (NmWs S kids).foldl (rchS p) Y j := by
    intro kids
    induction kids with
    | nil =>
      intro rows X Y hl _ hX j
      have : rows = [] := List.length_eq_zero_iff.mp hl
      subst this
      exact hX j
    | cons t kids ih =>
      intro rows X Y hl h hX j
      cases rows with
      | nil => simp at hl
      | cons l rows =>
        rw [List.map_cons, NmWs, List.foldl_cons, List.foldl_cons]
        refine ih rows _ _ (by simpa using hl) (fun i l t a b => h (i + 1) l t (by simpa using a) (by simpa using b)) (fun k => ?_) j
        exact rchS_iff hX (fun x => h 0 l t rfl rfl x) k
  exact key kids rows _ _ hl h (fun _ => Iff.rfl) j
def sNamesBy (n : Nat) : FS := fun as R => ∃ (S : Schema) (ts : List TabW) (t : Tr), as = [.val (.lst (ts.map twD)), .val (encT t)] ∧ WfS S ∧ TabsW S ts ∧ t.depth ≤ n ∧ TrOk t ∧
  ∀ L : List Str, (∀ x, x ∈ L ↔ NmW S t x) → L.length ≤ 5 → R (strsD L) []
theorem d_names_by (M : Names mg) (D1 : DefOk P w K mg base "fits_label" 1 sFits) (D2 : DefOk P w K mg base "label_of" 1 sLabelOf) (D3 : DefOk P w K mg base "places_of_row" 2 sPlaces) (D4 : DefOk P w K mg base "ends_well" 1 sEnds) (h : Has K mg "names_by" (top 57) ["tables", "tree"]) : ∀ n, DefOk P w K mg base "names_by" (n + 3) (sNamesBy n)
  | 0 => def_D h ["tables", "tree", "rows", "kid", "names", "table", "place"] ⟨rfl, rfl, rfl, by decide +kernel, rfl, by decide +kernel, by decide +kernel⟩ (fun as R ⟨_, _, _, e, _⟩ => by subst e; rfl) fun f cdv A outer s H E as R hr hu nd ⟨S, ts, t, e, _, _, hd, _⟩ => absurd hd (by cases t; unfold Tr.depth; omega)
  | n + 1 => by
    have D := d_names_by M D1 D2 D3 D4 h n
    refine def_D (k := n + 3) h ["tables", "tree", "rows", "kid", "names", "table", "place"] ⟨rfl, rfl, rfl, by decide +kernel, rfl, by decide +kernel, by decide +kernel⟩ (fun as R ⟨_, _, _, e, _⟩ => by subst e; rfl) fun f cdv A outer s H E as R hr hu nd ⟨S, ts, t, e, wf, tw, hd, ok, q⟩ => ?_
    subst e
    have hz := szl
    have hlen := tw.len wf
    obtain ⟨g, wd, ks⟩ := t
    unfold Tr.depth at hd
    unfold TrOk at ok
    rw [encT, encTs_eq]
    refine s_cons (t_asgLc 2 [("kid", 3)] (i_tup (j_ix (v_val (j_nm 1 rfl (j_int ⟨_, rfl, xd_tup rfl ⟨_, rfl, fun i acc ρ => ∃ rows : List (List Str), rows.length = i ∧ (∀ (k : Nat) (l : List Str) (t : Tr), rows[k]? = some l → ks[k]? = some t → ∀ x, x ∈ l ↔ NmW S t x) ∧ acc = rows.map strsD ∧
      ρ = [.val (.lst (ts.map twD)), .val (.tup [.str g, .str wd, .tup (ks.map encT)]), .un, .un, .un, .un, .un], by rw [List.length_map]; omega, ⟨[], rfl, fun k l t h => by simp at h, rfl, rfl⟩, fun i d acc ρ hd' hu' ⟨rows, hl, hr', ea, e⟩ => ?_, fun acc ρ hu' ⟨rows, hl, hr', ea, e⟩ => ?_⟩⟩))))) nd (blk ["tables", "tree", "rows", "kid", "names", "table", "place"] (defScope (top 57)) (by decide +kernel)))
    · subst e ea
      obtain ⟨kid, hx, rfl⟩ := mget hd'
      have hm := List.mem_of_getElem? hx
      have hkd := tdepth_mem hm
      have hok := trOk_mem hm ok.2.2
      refine fun s H C cl fp => b_nm 3 (fun s H C cl fp => ts_nil ⟨fun _ s H C cl fp => (j_call D hr (a_cons (v_val (j_nm 0 rfl (a_cons (v_val (j_nm 3 rfl (a_nil ⟨_, rfl, nd0, ⟨S, ts, kid, rfl, wf, tw, by omega, hok, fun L hL hl2 => ⟨rows ++ [L], ?_, fun k l t h1 h2 => ?_, ?_, rfl⟩⟩⟩)))))))), (fun h => by cases h)⟩) (by decide) nd
      · rw [List.length_append, hl]; rfl
      · rw [List.getElem?_append] at h1
        split at h1
        · exact hr' k l t h1 h2
        · have : k = rows.length := by
            by_cases e : k - rows.length = 0
            · omega
            · rw [List.getElem?_eq_none (by simp; omega)] at h1; cases h1
          subst this
          simp at h1
          subst h1
          rw [hl, hx] at h2
          cases h2
          exact hL
      · rw [List.map_append]; rfl
    subst e ea
    rw [List.length_map] at hl
    have hrch := fun (p : Pat) (j : Nat) => setNs_iff (p := p) hl hr' j
    refine s_freeze 2 rfl ?_
    refine s_cons (t_asgN 4 (n_lst (l_nil ?_)) nd)
    refine s_cons (t_for (i_lst (j_nm 0 rfl ⟨_, rfl, fun i ρ => ∃ (L : List Str) (d5 : Slot), L.length ≤ i ∧ (∀ x, x ∈ L ↔ ∃ t' ∈ ts.take i, t'.1.name = x ∧ fits t'.1 (lab (.node g wd ks)) = true ∧ ∃ j, rch t'.1.pat (NmWs S ks) j ∧ EndP t'.1.pat j) ∧
      ρ = [.val (.lst (ts.map twD)), .val (.tup [.str g, .str wd, .tup (ks.map encT)]), .val (.lst (rows.map strsD)), .un, .own none (.lst (L.map .str)), d5, .un], ⟨[], _, Nat.le_refl _, fun x => by simp, rfl⟩, fun i d ρ hd' ⟨L, _, hL1, hL2, e⟩ => ?_, fun ρ ⟨L, _, hL1, hL2, e⟩ => ?_⟩)))
    · subst e
      obtain ⟨t', hx, rfl⟩ := mget hd'
      have hm := List.mem_of_getElem? hx
      obtain ⟨hmr, hv⟩ := tw.mem hm
      have wp := wf.pats _ hmr
      have hi := lt_of_get hx
      refine g_nm 5 ?_ nd
      have same : (¬ (fits t'.1 (lab (.node g wd ks)) = true ∧ ∃ j, rch t'.1.pat (NmWs S ks) j ∧ EndP t'.1.pat j)) → ∀ x, x ∈ L ↔ ∃ t'' ∈ ts.take (i + 1), t''.1.name = x ∧ fits t''.1 (lab (.node g wd ks)) = true ∧ ∃ j, rch t''.1.pat (NmWs S ks) j ∧ EndP t''.1.pat j := fun hno x => by
        rw [hL2, take_snoc hx]
        constructor
        · rintro ⟨a, b, c⟩
          exact ⟨a, List.mem_append_left _ b, c⟩
        · rintro ⟨a, b, c, d, e⟩
          rcases List.mem_append.mp b with b | b
          · exact ⟨a, b, c, d, e⟩
          · have : a = t' := by simpa using b
            subst this
            exact absurd ⟨d, e⟩ hno
      refine s_cons (t_ifJ (fun ρ => ∃ (L : List Str) (d5 : Slot), L.length ≤ i + 1 ∧ (∀ x, x ∈ L ↔ ∃ t' ∈ ts.take (i + 1), t'.1.name = x ∧ fits t'.1 (lab (.node g wd ks)) = true ∧ ∃ j, rch t'.1.pat (NmWs S ks) j ∧ EndP t'.1.pat j) ∧
        ρ = [.val (.lst (ts.map twD)), .val (.tup [.str g, .str wd, .tup (ks.map encT)]), .val (.lst (rows.map strsD)), .un, .own none (.lst (L.map .str)), d5, .un]) _ (jt_val (j_call D1 (hr.mono (by omega)) (a_cons (v_val (j_ix (v_val (j_nm 5 rfl (j_int ⟨_, rfl, xd_tup rfl (a_cons (v_val (j_call D2 (hr.mono (by omega)) (a_cons (v_val (j_nm 1 rfl (a_nil ⟨_, rfl, nd0, ⟨.node g wd ks, by rw [encT, encTs_eq], ok.1, (a_nil ⟨_, rfl, nd0, ⟨_, _, rfl, wf.tags _ hmr, ⟨_, rfl, ⟨rfl, rfl⟩⟩⟩⟩)⟩⟩)))))))⟩)))))))) (fun h => ?_) (fun h => ?_) fun ρ e => ?_)
      · have e1 : ∀ xs : List Nat, ((xs.filter fun _ => true).map fun k => Dt.bl (endB t'.1.pat k)) = (xs.map fun k => endB t'.1.pat k).map Dt.bl := fun xs => by rw [filt_true, List.map_map]; rfl
        refine s_cons (t_ifJR (fun ρ => ∃ (L : List Str) (d5 : Slot), L.length ≤ i + 1 ∧ (∀ x, x ∈ L ↔ ∃ t' ∈ ts.take (i + 1), t'.1.name = x ∧ fits t'.1 (lab (.node g wd ks)) = true ∧ ∃ j, rch t'.1.pat (NmWs S ks) j ∧ EndP t'.1.pat j) ∧
          ρ = [.val (.lst (ts.map twD)), .val (.tup [.str g, .str wd, .tup (ks.map encT)]), .val (.lst (rows.map strsD)), .un, .own none (.lst (L.map .str)), d5, .un]) (jt_val (j_blt "any" M.any (by decide +kernel) (a_cons (v_val (j_compR [("place", 6)] nD (fun _ => true) (fun k => .bl (endB t'.1.pat k)) (i_lst (j_call D3 (hr.mono (by omega)) (a_cons (v_val (j_nm 5 rfl (a_cons (v_val (j_nm 2 rfl (a_nil ⟨_, rfl, nd0, ⟨t', rows, rfl, wp, tw.rows _ hm, fun xs hxs hxl => ⟨_, rfl, xs, rfl, rfl, by omega, (fun x hx => turn_id fun _ _ _ _ _ => b_nm 6 (fun _ _ _ _ _ => (j_call D4 (hr.mono (by omega)) (a_cons (v_val (j_nm 5 rfl (a_cons (v_val (j_nm 6 rfl (a_nil ⟨_, rfl, nd0, ⟨t', x, rfl, ⟨rfl, rfl⟩⟩⟩))))))))) (by decide) nd), (a_nil ⟨_, rfl, kd_anyE (congrArg Dt.lst (e1 xs)) ⟨_, rfl, fun hb => ?_, fun hb => ?_⟩⟩)⟩⟩⟩))))))))) nd (blk ["tables", "tree", "rows", "kid", "names", "table", "place"] (defScope (top 57)) (by decide +kernel))))))) fun ρ e => ?_)
        · have hex : ∃ j, rch t'.1.pat (NmWs S ks) j ∧ EndP t'.1.pat j := by
            rw [List.any_eq_true] at hb
            obtain ⟨b, h1, h2⟩ := hb
            obtain ⟨k, hk, rfl⟩ := List.mem_map.mp h1
            exact ⟨k, (hrch _ _).mp ((hxs k).mp hk), endB_iff.mp h2⟩
          refine s_cons (t_append 4 rfl ⟨_, rfl⟩ (j_ix (v_val (j_ix (v_val (j_nm 5 rfl (j_int ⟨_, rfl, xd_tup rfl (j_int ⟨_, rfl, xd_tup rfl ⟨_, _, rfl, ?_, ?_⟩⟩)⟩)))))))
          · rw [List.length_map]; omega
          refine s_nil ⟨L ++ [t'.1.name], .val (twD t'), by rw [List.length_append]; simpa using hL1, fun x => ?_, ?_⟩
          · rw [List.mem_append, hL2, take_snoc hx, List.mem_singleton]
            constructor
            · rintro (⟨a, b, c⟩ | e)
              · exact ⟨a, List.mem_append_left _ b, c⟩
              · exact ⟨t', List.mem_append_right _ (by simp), e.symm, h, hex⟩
            · rintro ⟨a, b, c⟩
              rcases List.mem_append.mp b with b | b
              · exact .inl ⟨a, b, c⟩
              · have : a = t' := by simpa using b
                subst this
                exact .inr c.1.symm
          · rw [List.map_append]; rfl
        · refine s_nil ⟨L, .val (twD t'), by omega, same (fun ⟨_, j, h1, h2⟩ => ?_), rfl⟩
          rw [List.any_eq_false] at hb
          exact hb _ (List.mem_map.mpr ⟨j, (hxs j).mpr ((hrch _ _).mpr h1), rfl⟩) (endB_iff.mpr h2)
        exact s_nil e
      · exact s_nil ⟨L, .val (twD t'), by omega, same (fun ⟨h1, _⟩ => by rw [h] at h1; cases h1), rfl⟩
      exact s_nil e
    · subst e
      rw [List.length_map, List.take_length] at hL2
      rw [List.length_map] at hL1
      refine s_freeze 4 rfl (s_cons (t_ret (j_nm 4 rfl ⟨_, rfl, q L (fun x => ?_) (by omega)⟩)))
      rw [hL2, NmW]
      constructor
      · rintro ⟨t', h1, h2, h3, h4⟩
        obtain ⟨hmr, hv⟩ := tw.mem h1
        exact ⟨t'.1, hmr, h2, hv, h3, h4⟩
      · rintro ⟨r, h1, h2, hv, h3, h4⟩
        obtain ⟨t', h5, rfl⟩ := tw.of h1 hv
        exact ⟨t', h5, h2, h3, h4⟩
end
end DL

set_option Elab.async false
set_option linter.all false
set_option maxRecDepth 100000
set_option autoImplicit false
set_option maxHeartbeats 4000000
/-! E28: row_by. -/
namespace DL
open PySem PySem.Spec L2
theorem atI_last {α : Type} {l : List α} {i : Nat} {x : α} (hl : l.length = i + 1) (h : l[i]? = some x) : L2.atI l (-1) = some x := by
  have e : ixN l.length (-1) = some i := by
    rw [hl]
    unfold ixN
    simp
    omega
  unfold L2.atI
  rw [e]
  exact h
theorem rch_take {p : Pat} {rows : List (List Str)} {k : Nat} {ns : List Str} (h : rows[k]? = some ns) (j : Nat) : rch p ((rows.take (k + 1)).map setN) j ↔ rchS p (rch p ((rows.take k).map setN)) (setN ns) j := by
  rw [take_snoc h, List.map_append, List.map_singleton, rch_snoc]
theorem rch_pos {p : Pat} {rows : List (List Str)} {k j : Nat} (hk : k < rows.length) (h : rch p ((rows.take (k + 1)).map setN) j) : 0 < j ∧ j ≤ cnt p := by
  rw [rch_take (List.getElem?_eq_getElem hk)] at h
  obtain ⟨_, _, a, _⟩ := h
  exact a.bd
section
variable {P : Program} {w : World} {K : PySem.W.Frag} {mg : Str → Option Value} {base : Heap}
def sRowBy : FS := fun as R => ∃ (t : TabW) (rows : List (List Str)), as = [.val (twD t), .val (.lst (rows.map strsD))] ∧ WfP t.1.pat ∧ NextRows t.1.pat t.2 ∧ rows.length ≤ 1000 ∧ (∃ j, rch t.1.pat (rows.map setN) j ∧ EndP t.1.pat j) ∧
  ∀ L : List Str, L.length = rows.length → (∀ (k : Nat) (x : Str) (l : List Str), L[k]? = some x → rows[k]? = some l → x ∈ l) → R (strsD L) []
theorem d_row_by (M : Names mg) (D1 : DefOk P w K mg base "places_behind" 1 sBehindW) (D2 : DefOk P w K mg base "ends_well" 1 sEnds) (h : Has K mg "row_by" (top 58) ["table", "rows"]) : DefOk P w K mg base "row_by" 2 sRowBy := by
  refine def_D h ["table", "rows", "layers", "names", "told", "place", "k", "one"] ⟨rfl, rfl, rfl, by decide +kernel, rfl, by decide +kernel, by decide +kernel⟩ (fun as R ⟨_, _, e, _⟩ => by subst e; rfl) fun f cdv A outer s H E as R hr hu nd ⟨t, rows, e, wp, hrows, h1000, hend, q⟩ => ?_
  subst e
  have hz := szl
  have hc3 := wp.cnt
  refine s_cons (t_asgN 2 (n_lst (l_cons (j_lst (l_cons (j_int (l_nil (l_nil ?_))))))) nd)
  refine s_cons (t_for (i_lst (j_nm 1 rfl ⟨_, rfl, fun i ρ => ∃ (ls : List (List Nat)) (d3 : Slot), ls.length = i + 1 ∧ (∀ (k : Nat) (l : List Nat), ls[k]? = some l → (∀ j, j ∈ l ↔ rch t.1.pat ((rows.take k).map setN) j) ∧ l.length ≤ 3) ∧
    ρ = [.val (twD t), .val (.lst (rows.map strsD)), .own none (.lst (ls.map rowD)), d3, .un, .un, .un, .un], ⟨[[0]], _, rfl, fun k l hk => ?_, rfl⟩, fun i d ρ hd ⟨ls, _, hl, hls, e⟩ => ?_, fun ρ ⟨ls, d3, hl, hls, e⟩ => ?_⟩)))
  · cases k with
    | zero =>
      have : [0] = l := by simpa using hk
      subst this
      exact ⟨fun j => by simp [rch], by decide⟩
    | succ k => simp at hk
  · subst e
    obtain ⟨ns, hx, rfl⟩ := mget hd
    have hi := lt_of_get hx
    have ei : ls[i]? = some ls[i] := List.getElem?_eq_getElem (by omega)
    generalize ls[i] = li at ei
    obtain ⟨g1, g2⟩ := hls i li ei
    refine g_nm 3 ?_ nd
    refine s_cons (t_append 2 rfl ⟨_, rfl⟩ (j_call D1 hr (a_cons (v_val (j_nm 0 rfl (a_cons (v_val (j_ix (v_own 2 rfl (j_neg (j_int ⟨_, rfl, ⟨_, rfl, xd_lst (d := rowD li) (atI_last (by rw [List.length_map]; exact hl) (by rw [List.getElem?_map, ei]; rfl)) (a_cons (v_val (j_nm 3 rfl (a_nil ⟨_, rfl, nd0, ⟨t, li, ns, rfl, wp, hrows, fun k hk => rch_bd ((g1 k).mp hk), by omega, fun L2 asc hL2 => ⟨_, _, rfl, ?_, ?_⟩⟩⟩))))⟩⟩)))))))))))
    · rw [List.length_map]; omega
    refine s_nil ⟨ls ++ [L2], .val (strsD ns), by rw [List.length_append, hl]; rfl, fun k l hk => ?_, by rw [List.map_append]; rfl⟩
    rw [List.getElem?_append] at hk
    split at hk
    · exact hls k l hk
    · have : k = ls.length := by
        by_cases e : k - ls.length = 0
        · omega
        · rw [List.getElem?_eq_none (by simp; omega)] at hk; cases hk
      subst this
      simp at hk
      subst hk
      rw [hl]
      refine ⟨fun j => ?_, ?_⟩
      · rw [hL2, rch_take hx]
        exact rchS_iff g1 (fun _ => Iff.rfl) j
      · exact asc_few (n := 3) asc fun j hj => by
          obtain ⟨k, _, a, _⟩ := (hL2 j).mp hj
          have := a.bd
          omega
  · subst e
    rw [List.length_map] at hl
    refine s_cons (t_asgN 4 (n_lst (l_nil ?_)) nd)
    have el : ls[rows.length]? = some ls[rows.length] := List.getElem?_eq_getElem (by omega)
    generalize ls[rows.length] = ll at el
    obtain ⟨g1, g2⟩ := hls _ ll el
    rw [List.take_length] at g1
    obtain ⟨j0, hj0, he0⟩ := hend
    have hne : j0 ∈ ll.filter (fun k => endB t.1.pat k) := List.mem_filter.mpr ⟨(g1 j0).mpr hj0, endB_iff.mpr he0⟩
    obtain ⟨pl, rest, epl⟩ : ∃ a r, ll.filter (fun k => endB t.1.pat k) = a :: r := by
      cases e : ll.filter (fun k => endB t.1.pat k) with
      | nil => rw [e] at hne; simp at hne
      | cons a r => exact ⟨a, r, rfl⟩
    have hpl : rch t.1.pat (rows.map setN) pl := (g1 pl).mp (List.mem_filter.mp (by rw [epl]; exact List.mem_cons_self)).1
    refine s_cons (t_asg 5 (j_ix (v_val (j_comp [("k", 6)] ll nD (fun k => endB t.1.pat k) nD (i_lst (j_ix (v_own 2 rfl (j_neg (j_int ⟨_, rfl, ⟨_, rfl, xd_lst (d := rowD ll) (atI_last (by rw [List.length_map]; exact hl) (by rw [List.getElem?_map, el]; rfl)) ⟨_, rfl, ⟨rfl, rfl⟩⟩⟩⟩))))) (by omega) (fun k hk => turn_if _ fun _ _ _ _ _ => b_nm 6 ⟨fun _ _ _ _ _ => (jt_val (j_call D2 (hr.mono (by decide)) (a_cons (v_val (j_nm 0 rfl (a_cons (v_val (j_nm 6 rfl (a_nil ⟨_, rfl, nd0, ⟨t, k, rfl, ⟨_, rfl, ⟨rfl, rfl⟩⟩⟩⟩))))))))), fun _ _ _ _ _ _ => (j_nm 6 rfl ⟨rfl, rfl⟩), fun _ => rfl⟩ (by decide) nd) (j_int ⟨_, rfl, xd_lst (d := nD pl) ?_ ?_⟩) nd (blk ["table", "rows", "layers", "names", "told", "place", "k", "one"] (defScope (top 58)) (by decide +kernel))))) nd)
    · rw [epl]; exact atI_map (f := nD) (l := pl :: rest) (i := 0) rfl
    refine s_norm [.val (twD t), .val (.lst (rows.map strsD)), .own none (.lst (ls.map rowD)), d3, .own none (.lst []), .val (nD pl), .un, .un] rfl ?_
    refine s_cons (t_for (i_rngDown M.range (j_bin (j_blt "len" M.len (by decide +kernel) (a_cons (v_val (j_nm 1 rfl (a_nil ⟨_, rfl, kd_lenL (j_int (bd_sub ⟨_, rfl, ⟨by rw [List.length_map]; omega, by rw [List.length_map]; omega⟩, fun i ρ => ∃ (told : List Str) (pl : Nat) (d6 : Slot), told.length = i ∧ i ≤ rows.length ∧ (∀ (x : Nat) (s : Str) (l : List Str), told[x]? = some s → rows[rows.length - i + x]? = some l → s ∈ l) ∧ (i < rows.length → rch t.1.pat ((rows.take (rows.length - i)).map setN) pl) ∧
      ρ = [.val (twD t), .val (.lst (rows.map strsD)), .own none (.lst (ls.map rowD)), d3, .own none (.lst (told.map .str)), .val (nD pl), d6, .un], ⟨[], pl, _, rfl, Nat.zero_le _, fun x s l h => by simp at h, fun _ => by rw [Nat.sub_zero, List.take_length]; exact hpl, rfl⟩, fun i d ρ hd ⟨told, pl, _, htl, hile, htm, hrc, e⟩ => ?_, fun ρ ⟨told, pl, _, htl, hile, htm, hrc, e⟩ => ?_⟩))⟩))))))))
    · subst e
      obtain ⟨hi, rfl⟩ := rget hd
      rw [List.length_map] at hi
      have hi : i < rows.length := by omega
      have hp : (((rows.map strsD).length : Nat) : Int) - 1 + (i : Int) * -1 = ((rows.length - i - 1 : Nat) : Int) := by rw [List.length_map]; omega
      rw [hp]
      have hrc := hrc hi
      have hk : rows.length - i - 1 < rows.length := by omega
      generalize hkk : rows.length - i - 1 = k at hk
      have ek1 : rows.length - i = k + 1 := by omega
      rw [ek1] at hrc htm
      have er : rows[k]? = some rows[k] := List.getElem?_eq_getElem hk
      generalize rows[k] = rk at er
      have hpos := rch_pos hk hrc
      have hnm := nm_at hpos
      have hstep := (rch_take er pl).mp hrc
      have hin : nmOf t.1.pat pl ∈ rk := by
        obtain ⟨_, _, _, z⟩ := hstep
        exact z
      refine g_nm 6 ?_ nd
      refine s_cons (t_insert0 4 rfl ⟨_, rfl⟩ (j_ix (v_val (j_ix (v_val (j_nm 0 rfl (j_int ⟨_, rfl, xd_tup rfl (j_bin (j_nm 5 rfl (j_int (bd_sub ⟨_, rfl, xd_lst (d := .str (nmOf t.1.pat pl)) ?_ ⟨_, _, rfl, ?_, ?_⟩⟩))))⟩)))))))
      · have := atI_map (f := Dt.str) hnm
        rw [show ((pl : Int) - 1) = ((pl - 1 : Nat) : Int) by omega]
        exact this
      · rw [List.length_map]; omega
      have htm2 : ∀ (x : Nat) (s : Str) (l : List Str), (nmOf t.1.pat pl :: told)[x]? = some s → rows[k + x]? = some l → s ∈ l := fun x s l h1 h2 => by
        cases x with
        | zero =>
          have h1 : nmOf t.1.pat pl = s := by simpa using h1
          rw [Nat.add_zero, er] at h2
          cases h2
          rw [← h1]; exact hin
        | succ x =>
          exact htm x s l (by simpa using h1) (by rw [show k + 1 + x = k + (x + 1) by omega]; exact h2)
      refine s_cons (t_ifJ (fun ρ => ∃ (pl' : Nat), (0 < k → rch t.1.pat ((rows.take k).map setN) pl') ∧ ρ = [.val (twD t), .val (.lst (rows.map strsD)), .own none (.lst (ls.map rowD)), d3, .own none (.lst ((nmOf t.1.pat pl :: told).map .str)), .val (nD pl'), .val (nD k), .un]) _ (jt_cmp (j_nm 6 rfl (v_val (j_int ⟨_, rfl, cd_gt ⟨rfl, rfl⟩⟩)))) (fun h => ?_) (fun h => ?_) fun ρ ⟨pl', hpl', e⟩ => ?_)
      · have hk0 : 0 < k := by have := of_decide_eq_true h; omega
        have elk : ls[k]? = some ls[k] := List.getElem?_eq_getElem (by omega)
        generalize ls[k] = lk at elk
        obtain ⟨f1, f2⟩ := hls k lk elk
        have hone : ∀ one ∈ lk, ∃ r, t.2[one - 1]? = some r ∧ (one : Int) - 1 = ((one - 1 : Nat) : Int) ∧ t.2.getD (one - 1) [] = r ∧ ∀ j, j ∈ r ↔ (one, j) ∈ (og t.1.pat).pairs := fun one ho => by
          have h1 := (f1 one).mp ho
          have h2 := rch_pos (rows := rows) (k := k - 1) (by omega) (by rw [show k - 1 + 1 = k by omega]; exact h1)
          have h3 : one - 1 < t.2.length := by rw [hrows.len]; omega
          have h4 := List.getElem?_eq_getElem h3
          refine ⟨_, h4, by omega, by rw [List.getD_eq_getElem?_getD, h4]; rfl, fun j => ?_⟩
          have := (hrows.at' _ _ h4).1 j
          rw [show one - 1 + 1 = one by omega] at this
          exact this
        obtain ⟨k', z1, z2, z3⟩ := hstep
        have hk' : k' ∈ lk.filter (fun one => decide (pl ∈ t.2.getD (one - 1) [])) := by
          refine List.mem_filter.mpr ⟨(f1 k').mpr z1, decide_eq_true ?_⟩
          obtain ⟨r, _, _, e3, e4⟩ := hone k' ((f1 k').mpr z1)
          rw [e3, e4]
          have h2 := rch_pos (rows := rows) (k := k - 1) (by omega) (by rw [show k - 1 + 1 = k by omega]; exact z1)
          unfold Aft at z2
          rw [if_neg (by omega)] at z2
          exact z2
        obtain ⟨pl2, rest2, epl2⟩ : ∃ a r, lk.filter (fun one => decide (pl ∈ t.2.getD (one - 1) [])) = a :: r := by
          cases e : lk.filter (fun one => decide (pl ∈ t.2.getD (one - 1) [])) with
          | nil => rw [e] at hk'; simp at hk'
          | cons a r => exact ⟨a, r, rfl⟩
        have hpl2 : rch t.1.pat ((rows.take k).map setN) pl2 := (f1 pl2).mp (List.mem_filter.mp (by rw [epl2]; exact List.mem_cons_self)).1
        refine s_cons (t_asg 5 (j_ix (v_val (j_comp [("one", 7)] lk nD (fun one => decide (pl ∈ t.2.getD (one - 1) [])) nD (i_lst (j_ix (v_own 2 rfl (j_nm 6 rfl ⟨_, rfl, xd_lst (atI_map elk) ⟨_, rfl, ⟨rfl, rfl⟩⟩⟩)))) (by omega) (fun one ho => turn_if _ fun _ _ _ _ _ => b_nm 7 ⟨fun _ _ _ _ _ => by
          obtain ⟨r, e1, e2, e3, _⟩ := hone one ho
          rw [e3]
          exact (jt_cmp (j_nm 5 rfl (v_val (j_ix (v_val (j_ix (v_val (j_nm 0 rfl (j_int ⟨_, rfl, xd_tup rfl (j_bin (j_nm 7 rfl (j_int (bd_sub ⟨_, rfl, xd_lst (d := rowD r) (by rw [e2]; exact atI_map e1) ⟨_, rfl, cd_inN ⟨rfl, rfl⟩⟩⟩))))⟩))))))))), fun _ _ _ _ _ _ => (j_nm 7 rfl ⟨rfl, rfl⟩), fun _ => rfl⟩ (by decide) nd) (j_int ⟨_, rfl, xd_lst (d := nD pl2) ?_ ?_⟩) nd (blk ["table", "rows", "layers", "names", "told", "place", "k", "one"] (defScope (top 58)) (by decide +kernel))))) nd)
        · rw [epl2]; exact atI_map (f := nD) (l := pl2 :: rest2) (i := 0) rfl
        exact s_nil ⟨pl2, fun _ => hpl2, rfl⟩
      · exact s_nil ⟨pl, fun z => absurd (of_decide_eq_false h) (by omega), rfl⟩
      subst e
      refine s_nil ⟨nmOf t.1.pat pl :: told, pl', _, by rw [List.length_cons, htl], by omega, fun x s l h1 h2 => htm2 x s l h1 (by rw [show rows.length - (i + 1) = k by omega] at h2; exact h2), fun hlt => ?_, rfl⟩
      rw [show rows.length - (i + 1) = k by omega]
      exact hpl' (by omega)
    · subst e
      rw [rng_len, List.length_map] at htl htm
      have e9 : ((rows.length : Int) - 1 - -1).toNat = rows.length := by omega
      rw [e9] at htl htm
      refine s_freeze 4 rfl (s_cons (t_ret (j_nm 4 rfl ⟨_, rfl, q told htl fun k x l h1 h2 => htm k x l h1 (by rw [Nat.sub_self, Nat.zero_add]; exact h2)⟩)))
end
end DL

set_option Elab.async false
set_option linter.all false
set_option maxRecDepth 100000
set_option autoImplicit false
set_option maxHeartbeats 4000000
/-! E29: way_by, way_of. -/
namespace DL
open PySem PySem.Spec L2
mutual
def tnodes : Tr → Nat
  | .node _ _ ks => tnodess ks + 1
def tnodess : List Tr → Nat
  | [] => 0
  | t :: ts => tnodes t + tnodess ts
end
section
variable {X : Cx} {ρ : Env} {R : DP} {D : DEnd} {pos p : Pos} {tg iter elt : Expr} {ifs : List Expr} {scope : Scope}
/-- a comprehension by an invariant, shared at once -/
theorem j_lcI (own : List (Str × Nat)) (h : JI X tg iter ρ fun ds ρ1 => ∃ I : Nat → List Dt → Env → Prop, ds.length ≤ sizeLine ∧ I 0 [] (unAt ρ1 (own.map (·.2))) ∧
      (∀ i d acc ρ', ds[i]? = some d → UnIn ρ' (own.map (·.2)) → I i acc ρ' → Turn1 X scope tg elt ifs (own.map (·.2)) d ρ' fun o ρ2 => I (i + 1) (acc ++ o.toList) (unAt ρ2 (own.map (·.2)))) ∧ ∀ acc ρ', UnIn ρ' (own.map (·.2)) → I ds.length acc ρ' → R (.lst acc) ρ')
    (hN : X.N.Nodup) (ok : BlkOk X.N X.env.scope scope own) (hc : X.calm = true := by rfl) (hs : ∀ x, foldedSetIterable iter X.env x = pure x := by intro _; rfl) : JE X (.ListComp elt [⟨tg, iter, ifs, 0⟩] scope pos) ρ R :=
  (j_new (n_lc (R := fun d ρ' => (∃ l, d = .lst l) ∧ R d ρ') own (fun C F σ H Q r k => h C F σ H Q r fun ds ρ1 J F1 H1 ⟨I, a, b, c, e⟩ e1 r1 it => k ds ρ1 J F1 H1 ⟨I, a, b, c, fun acc ρ' hu hI => ⟨⟨_, rfl⟩, e acc ρ' hu hI⟩⟩ e1 r1 it) hN ok hc hs) (fun d ρ' ⟨⟨l, e⟩, _⟩ kvs z => by rw [e] at z; cases z)).imp fun d ρ' h => h.2
end
/-- kids' names, so far -/
theorem kid_snoc {S : Schema} {ks : List Tr} {rows : List (List Str)} {i : Nat} {kid : Tr} {L : List Str} (hl : rows.length = i) (hx : ks[i]? = some kid) (hr : ∀ (k : Nat) (l : List Str) (t : Tr), rows[k]? = some l → ks[k]? = some t → ∀ x, x ∈ l ↔ NmW S t x) (hL : ∀ x, x ∈ L ↔ NmW S kid x) :
    ∀ (k : Nat) (l : List Str) (t : Tr), (rows ++ [L])[k]? = some l → ks[k]? = some t → ∀ x, x ∈ l ↔ NmW S t x := fun k l t h1 h2 => by
  rw [List.getElem?_append] at h1
  split at h1
  · exact hr k l t h1 h2
  · have : k = rows.length := by
      by_cases e : k - rows.length = 0
      · omega
      · rw [List.getElem?_eq_none (by simp; omega)] at h1; cases h1
    subst this
    simp at h1
    subst h1
    rw [hl, hx] at h2
    cases h2
    exact hL
theorem tnodess_snoc : ∀ (ts : List Tr) (t : Tr), tnodess (ts ++ [t]) = tnodess ts + tnodes t
  | [], t => by simp [tnodess]
  | a :: ts, t => by rw [List.cons_append, tnodess, tnodess, tnodess_snoc ts t]; omega
theorem tnodess_take (ts : List Tr) (i : Nat) : tnodess (ts.take i) ≤ tnodess ts := by
  have key : ∀ a b : List Tr, tnodess (a ++ b) = tnodess a + tnodess b := by
    intro a b
    induction a with
    | nil => simp [tnodess]
    | cons x a ih => rw [List.cons_append, tnodess, tnodess, ih]; omega
  have := key (ts.take i) (ts.drop i)
  rw [List.take_append_drop] at this
  omega
section
variable {P : Program} {w : World} {K : PySem.W.Frag} {mg : Str → Option Value} {base : Heap}
def sWayBy (n : Nat) : FS := fun as R => ∃ (S : Schema) (ts : List TabW) (t : Tr) (x : Str) (tl : List Dt), as = [.val (.lst (ts.map twD)), .val (encT t), .val (.str x), .own (.lst tl)] ∧ WfS S ∧ TabsW S ts ∧ t.depth ≤ n ∧ TrOk t ∧ NmW S t x ∧ tl.length + tnodes t ≤ 1000000 ∧
  ∀ tl' : List Dt, tl'.length ≤ tl.length + tnodes t → R .non [.lst tl']
theorem d_way_by (M : Names mg) (D1 : ∀ n, DefOk P w K mg base "names_by" (n + 3) (sNamesBy n)) (D2 : DefOk P w K mg base "row_by" 2 sRowBy) (h : Has K mg "way_by" (top 59) ["tables", "tree", "name", "told"]) : ∀ n, DefOk P w K mg base "way_by" (n + 4) (sWayBy n)
  | 0 => def_D h ["tables", "tree", "name", "told", "table", "one", "names", "kid", "k"] ⟨rfl, rfl, rfl, by decide +kernel, rfl, by decide +kernel, by decide +kernel⟩ (fun as R ⟨_, _, _, _, _, e, _⟩ => by subst e; rfl) fun f cdv A outer s H E as R hr hu nd ⟨S, ts, t, x, tl, e, _, _, hd, _⟩ => absurd hd (by cases t; unfold Tr.depth; omega)
  | n + 1 => by
    have D := d_way_by M D1 D2 h n
    refine def_D (k := n + 4) h ["tables", "tree", "name", "told", "table", "one", "names", "kid", "k"] ⟨rfl, rfl, rfl, by decide +kernel, rfl, by decide +kernel, by decide +kernel⟩ (fun as R ⟨_, _, _, _, _, e, _⟩ => by subst e; rfl) fun f cdv A outer s H E as R hr hu nd ⟨S, ts, t, x, tl, e, wf, tw, hd, ok, hnm, hlen, q⟩ => ?_
    subst e
    have hz := szl
    have htl := tw.len wf
    obtain ⟨g, wd, ks⟩ := t
    unfold Tr.depth at hd
    unfold TrOk at ok
    rw [tnodes] at hlen
    rw [NmW] at hnm
    obtain ⟨r, hr1, hr2, hv, _, hj⟩ := hnm
    rw [encT, encTs_eq]
    obtain ⟨t0, ht0, et0⟩ := tw.of hr1 hv
    obtain ⟨t1, rest, ef⟩ : ∃ a b, ts.filter (fun t => decide (t.1.name = x)) = a :: b := by
      cases e : ts.filter (fun t => decide (t.1.name = x)) with
      | nil =>
        have : t0 ∈ ts.filter (fun t => decide (t.1.name = x)) := List.mem_filter.mpr ⟨ht0, decide_eq_true (by rw [et0]; exact hr2)⟩
        rw [e] at this; simp at this
      | cons a b => exact ⟨a, b, rfl⟩
    have hm1 := List.mem_filter.mp (show t1 ∈ ts.filter (fun t => decide (t.1.name = x)) by rw [ef]; exact List.mem_cons_self)
    have e1r : t1.1 = r := names_inj' wf (tw.mem hm1.1).1 hr1 ((of_decide_eq_true hm1.2).trans hr2.symm)
    have wp := wf.pats r hr1
    refine s_cons (t_append 3 rfl ⟨_, rfl⟩ (j_nm 2 rfl ⟨_, _, rfl, by omega, ?_⟩))
    refine s_cons (t_asg 4 (j_ix (v_val (j_comp [("one", 5)] ts twD (fun t => decide (t.1.name = x)) twD (i_lst (j_nm 0 rfl ⟨_, rfl, ⟨rfl, rfl⟩⟩)) (by omega) (fun t ht => turn_if _ fun _ _ _ _ _ => b_nm 5 ⟨fun _ _ _ _ _ => (jt_cmp (j_ix (v_val (j_ix (v_val (j_nm 5 rfl (j_int ⟨_, rfl, xd_tup rfl (j_int ⟨_, rfl, xd_tup rfl (v_val (j_nm 2 rfl ⟨_, rfl, cd_eqS ⟨rfl, rfl⟩⟩))⟩)⟩))))))), fun _ _ _ _ _ _ => (j_nm 5 rfl ⟨rfl, rfl⟩), fun _ => rfl⟩ (by decide) nd) (j_int ⟨_, rfl, xd_lst (d := twD t1) ?_ ?_⟩) nd (blk ["tables", "tree", "name", "told", "table", "one", "names", "kid", "k"] (defScope (top 59)) (by decide +kernel))))) nd)
    · rw [ef]; exact atI_map (f := twD) (l := t1 :: rest) (i := 0) rfl
    refine s_norm [.val (.lst (ts.map twD)), .val (.tup [.str g, .str wd, .tup (ks.map encT)]), .val (.str x), .own (some 0) (.lst (tl ++ [.str x])), .val (twD t1), .un, .un, .un, .un] rfl ?_
    refine s_cons (t_asg 6 (j_call D2 (hr.mono (by omega)) (a_cons (v_val (j_nm 4 rfl (a_cons (v_val (j_lcI [("kid", 7)] (i_tup (j_ix (v_val (j_nm 1 rfl (j_int ⟨_, rfl, xd_tup rfl ⟨_, rfl, fun i acc ρ => ∃ rows : List (List Str), rows.length = i ∧ (∀ (k : Nat) (l : List Str) (t : Tr), rows[k]? = some l → ks[k]? = some t → ∀ x, x ∈ l ↔ NmW S t x) ∧ acc = rows.map strsD ∧
      ρ = [.val (.lst (ts.map twD)), .val (.tup [.str g, .str wd, .tup (ks.map encT)]), .val (.str x), .own (some 0) (.lst (tl ++ [.str x])), .val (twD t1), .un, .un, .un, .un], by rw [List.length_map]; omega, ⟨[], rfl, fun k l t h => by simp at h, rfl, rfl⟩, fun i d acc ρ hd' hu' ⟨rows, hl, hr', ea, e⟩ => ?_, fun acc ρ hu' ⟨rows, hl, hr', ea, e⟩ => ?_⟩⟩))))) nd (blk ["tables", "tree", "name", "told", "table", "one", "names", "kid", "k"] (defScope (top 59)) (by decide +kernel))))))))) nd)
    · subst e ea
      obtain ⟨kid, hx, rfl⟩ := mget hd'
      have hm := List.mem_of_getElem? hx
      have hkd := tdepth_mem hm
      have hok := trOk_mem hm ok.2.2
      exact fun s H C cl fp => b_nm 7 (fun s H C cl fp => ts_nil ⟨fun _ s H C cl fp => (j_call (D1 n) (hr.mono (by omega)) (a_cons (v_val (j_nm 0 rfl (a_cons (v_val (j_nm 7 rfl (a_nil ⟨_, rfl, nd0, ⟨S, ts, kid, rfl, wf, tw, by omega, hok, fun L hL hl2 => ⟨rows ++ [L], by rw [List.length_append, hl]; rfl, kid_snoc hl hx hr' hL, by rw [List.map_append]; rfl, rfl⟩⟩⟩)))))))), (fun h => by cases h)⟩) (by decide) nd
    subst e ea
    rw [List.length_map] at hl
    refine a_nil ⟨_, rfl, nd0, ⟨t1, rows, rfl, by rw [e1r]; exact wp, tw.rows _ hm1.1, by omega, ?_, fun L hL1 hL2 => ?_⟩⟩
    · rw [e1r]
      obtain ⟨j, h1, h2⟩ := hj
      exact ⟨j, (setNs_iff hl hr' j).mpr h1, h2⟩
    refine s_norm [.val (.lst (ts.map twD)), .val (.tup [.str g, .str wd, .tup (ks.map encT)]), .val (.str x), .own (some 0) (.lst (tl ++ [.str x])), .val (twD t1), .un, .val (strsD L), .un, .un] rfl ?_
    refine s_cons (t_for (i_rng1 M.range (j_blt "len" M.len (by decide +kernel) (a_cons (v_val (j_nm 6 rfl (a_nil ⟨_, rfl, kd_lenL ⟨_, rfl, ⟨by omega, by rw [List.length_map]; omega⟩, fun i ρ => ∃ (tl' : List Dt) (d8 : Slot), tl'.length ≤ tl.length + 1 + tnodess (ks.take i) ∧
      ρ = [.val (.lst (ts.map twD)), .val (.tup [.str g, .str wd, .tup (ks.map encT)]), .val (.str x), .own (some 0) (.lst tl'), .val (twD t1), .un, .val (strsD L), .un, d8], ⟨tl ++ [.str x], _, by simp, rfl⟩, fun i d ρ hd' ⟨tl', _, hl', e⟩ => ?_, fun ρ ⟨tl', _, hl', e⟩ => ?_⟩⟩)))))))
    · subst e
      obtain ⟨hi, rfl⟩ := rget hd'
      rw [List.length_map] at hi
      have hi : i < ks.length := by omega
      have hp : (0 : Int) + (i : Int) * 1 = (i : Int) := by omega
      rw [hp]
      have ek : ks[i]? = some ks[i] := List.getElem?_eq_getElem hi
      generalize ks[i] = kid at ek
      have eL : L[i]? = some L[i] := List.getElem?_eq_getElem (by omega)
      generalize L[i] = xn at eL
      have erow : rows[i]? = some rows[i] := List.getElem?_eq_getElem (by omega)
      generalize rows[i] = rw' at erow
      have hm := List.mem_of_getElem? ek
      have hkd := tdepth_mem hm
      have hok := trOk_mem hm ok.2.2
      have hnk := (hr' i rw' kid erow ek xn).mp (hL2 i xn rw' eL erow)
      have htn := tnodess_take ks (i + 1)
      rw [take_snoc ek, tnodess_snoc] at htn
      refine g_nm 8 ?_ nd
      refine s_cons (t_expr (j_call D hr (a_cons (v_val (j_nm 0 rfl (a_cons (v_val (j_ix (v_val (j_ix (v_val (j_nm 1 rfl (j_int ⟨_, rfl, xd_tup rfl (j_nm 8 rfl ⟨_, rfl, xd_tup (atI_map ek) (a_cons (v_val (j_ix (v_val (j_nm 6 rfl (j_nm 8 rfl ⟨_, rfl, xd_lst (atI_map eL) (a_cons (v_own 3 rfl (a_nil ⟨_, rfl, nd1, ⟨S, ts, kid, xn, tl', rfl, wf, tw, by omega, hok, hnk, by omega, fun tl2 h2 => ?_⟩⟩)))⟩))))))⟩)⟩)))))))))))))
      refine s_nil ⟨tl2, .val (nD i), ?_, rfl⟩
      rw [take_snoc ek, tnodess_snoc]
      omega
    · subst e
      rw [rng_len, List.length_map] at hl'
      have := tnodess_take ks (((L.length : Nat) : Int)).toNat
      refine s_nil ⟨_, rfl, q tl' ?_⟩
      rw [tnodes]
      omega
end
end DL

set_option Elab.async false
set_option linter.all false
set_option maxRecDepth 100000
set_option autoImplicit false
set_option maxHeartbeats 4000000
/-! E30: way_of. -/
namespace DL
open PySem PySem.Spec L2
section
variable {P : Program} {w : World} {K : PySem.W.Frag} {mg : Str → Option Value} {base : Heap}
def sWayOf : FS := fun as R => ∃ (S : Schema) (t : Tr), as = [.val (encS S), .val (encT t)] ∧ WfS S ∧ t.depth ≤ 60 ∧ TrOk t ∧ tnodes t ≤ 1000000 ∧
  ((∃ x ∈ S.roots, NmW S t x) → ∀ tl, R (.lst tl) []) ∧ ((¬ ∃ x ∈ S.roots, NmW S t x) → R .non [])
theorem d_way_of (M : Names mg) (D0 : DefOk P w K mg base "tables_of" 63 sTabsOf) (D1 : ∀ n, DefOk P w K mg base "names_by" (n + 3) (sNamesBy n)) (D2 : ∀ n, DefOk P w K mg base "way_by" (n + 4) (sWayBy n)) (h : Has K mg "way_of" (top 60) ["schema", "tree"]) : DefOk P w K mg base "way_of" 65 sWayOf := by
  refine def_D h ["schema", "tree", "tables", "name", "told"] ⟨rfl, rfl, rfl, by decide +kernel, rfl, by decide +kernel, by decide +kernel⟩ (fun as R ⟨_, _, e, _⟩ => by subst e; rfl) fun f cdv A outer s H E as R hr hu nd ⟨S, t, e, wf, hd, ok, hn, q1, q2⟩ => ?_
  subst e
  refine s_cons (t_asg 2 (j_call D0 (hr.mono (by decide)) (a_cons (v_val (j_nm 0 rfl (a_nil ⟨_, rfl, nd0, ⟨S, rfl, wf, fun ts tw => ?_⟩⟩))))) nd)
  refine s_cons (t_for (i_lst (j_call (D1 60) (hr.mono (by decide)) (a_cons (v_val (j_nm 2 rfl (a_cons (v_val (j_nm 1 rfl (a_nil ⟨_, rfl, nd0, ⟨S, ts, t, rfl, wf, tw, hd, ok, fun L hL hl => ⟨_, rfl, fun i ρ => (∀ x ∈ L.take i, x ∉ S.roots) ∧ ∃ d3, ρ = [.val (encS S), .val (encT t), .val (.lst (ts.map twD)), d3, .un], ⟨fun x h => by simp at h, _, rfl⟩, fun i d ρ hd' ⟨hI, _, e⟩ => ?_, fun ρ ⟨hI, _, e⟩ => ?_⟩⟩⟩))))))))))
  · subst e
    obtain ⟨x, hx, rfl⟩ := mget hd'
    have hnm := (hL x).mp (List.mem_of_getElem? hx)
    refine g_nm 3 ?_ nd
    refine s_cons (t_ifB _ (jt_cmp (j_nm 3 rfl (v_val (j_ix (v_val (j_nm 0 rfl (j_int ⟨_, rfl, xd_tup rfl ⟨_, rfl, cd_inSt ⟨rfl, rfl⟩⟩⟩))))))) (fun h => ?_) (fun h => ?_))
    · refine s_cons (t_asgN 4 (n_lst (l_nil ?_)) nd)
      refine s_cons (t_expr (j_call (D2 60) (hr.mono (by decide)) (a_cons (v_val (j_nm 2 rfl (a_cons (v_val (j_nm 1 rfl (a_cons (v_val (j_nm 3 rfl (a_cons (v_own 4 rfl (a_nil ⟨_, rfl, nd1, ⟨S, ts, t, x, [], rfl, wf, tw, hd, ok, hnm, by simpa using hn, fun tl' _ => ?_⟩⟩))))))))))))))
      exact s_freeze 4 rfl (s_cons (t_ret (j_nm 4 rfl ⟨_, rfl, q1 ⟨x, of_decide_eq_true h, hnm⟩ tl'⟩)))
    refine s_nil (s_nil ⟨fun y hy => ?_, _, rfl⟩)
    rw [take_snoc hx] at hy
    rcases List.mem_append.mp hy with hy | hy
    · exact hI y hy
    · have : y = x := by simpa using hy
      rw [this]
      exact of_decide_eq_false h
  · subst e
    rw [List.length_map, List.take_length] at hI
    exact s_cons (t_ret (j_non ⟨_, rfl, q2 fun ⟨x, h1, h2⟩ => hI x ((hL x).mpr h2) h1⟩))
end
end DL

set_option Elab.async false
set_option linter.all false
set_option maxRecDepth 100000
set_option autoImplicit false
set_option maxHeartbeats 4000000
/-! E31: the names by rows are the names by spots (plain). -/
namespace DL
open PySem PySem.Spec L2
/-- spots of the rules that fit l, each rule's places as Y says -/
def SpY (S : Schema) (l : Str) (Y : Rule → Nat → Prop) : SpS := fun p => ∃ r ∈ S.rules, r.name = p.1 ∧ (og r.pat).void = false ∧ fits r l = true ∧ Y r p.2
theorem bhP_spY {S : Schema} (wf : WfS S) {l : Str} {Y : Rule → Nat → Prop} {N : Str → Prop} (p : Spot) : BhP S (SpY S l Y) N p ↔ SpY S l (fun r => rchS r.pat (Y r) N) p := by
  unfold BhP SpY rchS
  constructor
  · rintro ⟨k, ⟨r, h1, h2, h3, h4, h5⟩, r', g1, g2, g3, g4⟩
    have : r' = r := names_inj' wf g1 h1 (g2.trans h2.symm)
    subst this
    exact ⟨r', h1, h2, h3, h4, k, h5, g3, g4⟩
  · rintro ⟨r, h1, h2, h3, h4, k, h5, h6, h7⟩
    exact ⟨k, ⟨r, h1, h2, h3, h4, h5⟩, r, h1, h2, h6, h7⟩
theorem sta_spY {S : Schema} {l : Str} (p : Spot) : Sta S l p ↔ SpY S l (fun _ k => k = 0) p := by
  unfold Sta SpY
  constructor
  · rintro ⟨h0, r, h1, h2, h3, h4⟩
    exact ⟨r, h1, h2, h3, h4, h0⟩
  · rintro ⟨r, h1, h2, h3, h4, h0⟩
    exact ⟨h0, r, h1, h2, h3, h4⟩
mutual
theorem nm_eq {S : Schema} (wf : WfS S) : ∀ (t : Tr) (x : Str), NmW S t x ↔ NmP S (StT S t) x
  | .node g w ks, x => by
    have h := nms_eq wf ks (lab (.node g w ks)) (fun _ k => k = 0)
    rw [NmW, StT, nmP_iff (stTs_iff ks sta_spY) x, nmP_iff h x]
    unfold NmP SpY rch
    constructor
    · rintro ⟨r, h1, h2, h3, h4, j, h5, h6⟩
      exact ⟨j, ⟨r, h1, h2, h3, h4, h5⟩, r, h1, h2, h6⟩
    · rintro ⟨j, ⟨r, h1, h2, h3, h4, h5⟩, r', g1, g2, g3⟩
      have : r' = r := names_inj' wf g1 h1 (g2.trans h2.symm)
      subst this
      exact ⟨r', h1, h2, h3, h4, j, h5, g3⟩
theorem nms_eq {S : Schema} (wf : WfS S) : ∀ (ks : List Tr) (l : Str) (Y : Rule → Nat → Prop) (p : Spot), StTs S ks (SpY S l Y) p ↔ SpY S l (fun r => (NmWs S ks).foldl (rchS r.pat) (Y r)) p
  | [], l, Y, p => by rw [StTs, NmWs]; exact Iff.rfl
  | t :: ts, l, Y, p => by
    rw [StTs, NmWs]
    have e1 : ∀ p, BhP S (SpY S l Y) (NmP S (StT S t)) p ↔ SpY S l (fun r => rchS r.pat (Y r) (NmW S t)) p := fun p => by
      rw [← bhP_spY wf]
      exact bhP_iff (fun _ => Iff.rfl) (fun x => (nm_eq wf t x).symm) p
    rw [stTs_iff ts e1 p, nms_eq wf ts l _ p]
    exact Iff.rfl
end
theorem admits_iff {S : Schema} (wf : WfS S) (t : Tr) : Admits S t ↔ ∃ x ∈ S.roots, NmW S t x := by
  unfold Admits
  constructor
  · rintro ⟨x, h1, h2⟩
    exact ⟨x, h1, (nm_eq wf t x).mpr h2⟩
  · rintro ⟨x, h1, h2⟩
    exact ⟨x, h1, (nm_eq wf t x).mp h2⟩
end DL

set_option Elab.async false
set_option linter.all false
set_option maxRecDepth 100000
set_option autoImplicit false
set_option maxHeartbeats 4000000
/-! E32: machines compared as data. -/
namespace DL
open PySem PySem.Spec L2
theorem eqvAll_map {α : Type} [DecidableEq α] {f : α → PyData} (h : ∀ a b, PyData.eqv (f a) (f b) = decide (a = b)) : ∀ l m : List α, PyData.eqvAll (l.map f) (m.map f) = decide (l = m)
  | [], [] => by simp [PyData.eqvAll]
  | [], b :: m => by simp [PyData.eqvAll]
  | a :: l, [] => by simp [PyData.eqvAll]
  | a :: l, b :: m => by
    rw [List.map_cons, List.map_cons, PyData.eqvAll, h, eqvAll_map h l m]
    by_cases e1 : a = b <;> by_cases e2 : l = m <;> simp [e1, e2]
theorem eqv_nD (a b : Nat) : PyData.eqv (nD a).py (nD b).py = decide (a = b) := by
  simp only [nD, Dt.py]
  rw [eqv_int]
  exact decide_eq_decide.mpr (by omega)
theorem eqv_pD (a b : Str × Nat) : PyData.eqv (pD a).py (pD b).py = decide (a = b) := by
  simp only [pD, Dt.py, pys]
  rw [PyData.eqv, PyData.eqvAll, PyData.eqvAll, PyData.eqvAll, eqv_str, eqv_int]
  have : a = b ↔ a.1 = b.1 ∧ (a.2 : Int) = b.2 := ⟨fun e => by rw [e]; exact ⟨rfl, rfl⟩, fun ⟨h1, h2⟩ => Prod.ext h1 (by omega)⟩
  have e : decide (a = b) = (decide (a.1 = b.1) && decide ((a.2 : Int) = b.2)) := by
    rw [← Bool.decide_and]
    exact decide_eq_decide.mpr this
  rw [e, Bool.and_true]
theorem eqv_rowD (a b : List Nat) : PyData.eqv (rowD a).py (rowD b).py = decide (a = b) := by
  simp only [rowD, Dt.py]
  rw [PyData.eqv, pys_eq, pys_eq, List.map_map, List.map_map]
  exact eqvAll_map (f := Dt.py ∘ nD) eqv_nD a b
theorem eqv_M (A B : Mach) : PyData.eqv (encM A).py (encM B).py = true ↔ A = B := by
  simp only [encM, Dt.py, pys]
  rw [PyData.eqv, PyData.eqvAll, PyData.eqvAll, PyData.eqvAll, PyData.eqvAll, PyData.eqv, PyData.eqv, PyData.eqv, pys_eq, pys_eq, pys_eq, pys_eq, pys_eq, pys_eq, List.map_map, List.map_map, List.map_map, List.map_map, List.map_map, List.map_map]
  rw [eqvAll_map (f := Dt.py ∘ pD) eqv_pD, eqvAll_map (f := Dt.py ∘ rowD) eqv_rowD, eqvAll_map (f := Dt.py ∘ nD) eqv_nD]
  simp only [Bool.and_eq_true, decide_eq_true_eq]
  constructor
  · rintro ⟨h1, h2, h3, _⟩
    cases A; cases B
    simp at h1 h2 h3
    rw [h1, h2, h3]
  · intro e
    subst e
    exact ⟨rfl, rfl, rfl, trivial⟩
end DL

set_option Elab.async false
set_option linter.all false
set_option maxRecDepth 100000
set_option autoImplicit false
set_option maxHeartbeats 4000000
/-! E33: what a pattern admits, and that its outline reads just that (plain). -/
namespace DL
open PySem PySem.Spec L2
abbrev Lt := Str → Prop
/-- any number of words of A -/
inductive Star (A : List Lt → Prop) : List Lt → Prop
  | nil : Star A []
  | cons {a b : List Lt} : A a → Star A b → Star A (a ++ b)
mutual
def Acc : Pat → List Lt → Prop
  | .one x => fun ws => ∃ N : Lt, ws = [N] ∧ N x
  | .row ps => AccR ps
  | .any ps => AccA ps
  | .may p => fun ws => ws = [] ∨ Acc p ws
  | .many p => Star (Acc p)
  | .some p => fun ws => ∃ a b, ws = a ++ b ∧ Acc p a ∧ Star (Acc p) b
def AccR : List Pat → List Lt → Prop
  | [] => fun ws => ws = []
  | p :: ps => fun ws => ∃ a b, ws = a ++ b ∧ Acc p a ∧ AccR ps b
def AccA : List Pat → List Lt → Prop
  | [] => fun _ => False
  | p :: ps => fun ws => Acc p ws ∨ AccA ps ws
end
/-- a word leads to a place -/
inductive Walk (o : Out) (nm : Nat → Str) : List Lt → Nat → Prop
  | one {N : Lt} {j : Nat} : j ∈ o.firsts → N (nm j) → Walk o nm [N] j
  | snoc {ws : List Lt} {N : Lt} {k j : Nat} : Walk o nm ws k → (k, j) ∈ o.pairs → N (nm j) → Walk o nm (ws ++ [N]) j
/-- what an outline reads -/
def Rd (o : Out) (nm : Nat → Str) (ws : List Lt) : Prop := (ws = [] ∧ o.none = true) ∨ ∃ j ∈ o.lasts, Walk o nm ws j
theorem Walk.ne {o : Out} {nm : Nat → Str} {ws : List Lt} {j : Nat} (h : Walk o nm ws j) : ws ≠ [] := by
  cases h <;> simp
theorem Walk.in {o : Out} {nm : Nat → Str} {ws : List Lt} {j b c : Nat} (hi : OIn o b c) (h : Walk o nm ws j) : b < j ∧ j ≤ c := by
  cases h with
  | one h1 _ => exact hi.fs j h1
  | snoc _ h2 _ => exact (hi.ps _ h2).2
theorem Walk.mono {o o' : Out} {nm : Nat → Str} {ws : List Lt} {j : Nat} (h1 : ∀ x ∈ o.firsts, x ∈ o'.firsts) (h2 : ∀ x ∈ o.pairs, x ∈ o'.pairs) (h : Walk o nm ws j) : Walk o' nm ws j := by
  induction h with
  | one a b => exact .one (h1 _ a) b
  | snoc _ b c ih => exact .snoc ih (h2 _ b) c
theorem walk_row {s i : Out} {a b c : Nat} (hs : OIn s a b) (hi : OIn i b c) {nm : Nat → Str} {ws : List Lt} {j : Nat} : Walk (rowStep s i) nm ws j ↔ Walk s nm ws j ∨ (s.none = true ∧ Walk i nm ws j) ∨ ∃ u v, ws = u ++ v ∧ (∃ k ∈ s.lasts, Walk s nm u k) ∧ Walk i nm v j := by
  have memF : ∀ x, x ∈ (rowStep s i).firsts ↔ x ∈ s.firsts ∨ (s.none = true ∧ x ∈ i.firsts) := fun x => by
    show x ∈ (if s.none = true then s.firsts ++ i.firsts else s.firsts) ↔ _
    split
    · rename_i h; simp [h]
    · rename_i h; simp [h]
  have memP : ∀ x, x ∈ (rowStep s i).pairs ↔ x ∈ s.pairs ∨ x ∈ i.pairs ∨ (x.1 ∈ s.lasts ∧ x.2 ∈ i.firsts) := fun x => by
    show x ∈ s.pairs ++ i.pairs ++ btw s.lasts i.firsts ↔ _
    rw [List.mem_append, List.mem_append, mem_btw, or_assoc]
  have up : ∀ {v j}, Walk i nm v j → ∀ {u k}, k ∈ s.lasts → Walk s nm u k → Walk (rowStep s i) nm (u ++ v) j := fun {v j} h => by
    induction h with
    | @one N j h1 h2 =>
      intro u k hk hu
      exact .snoc (hu.mono (fun x hx => (memF x).mpr (.inl hx)) (fun x hx => (memP x).mpr (.inl hx))) ((memP _).mpr (.inr (.inr ⟨hk, h1⟩))) h2
    | @snoc ws N k' j _ h2 h3 ih =>
      intro u k hk hu
      rw [← List.append_assoc]
      exact .snoc (ih hk hu) ((memP _).mpr (.inr (.inl h2))) h3
  constructor
  · intro h
    induction h with
    | @one N j h1 h2 =>
      rcases (memF j).mp h1 with q | ⟨q1, q2⟩
      · exact .inl (.one q h2)
      · exact .inr (.inl ⟨q1, .one q2 h2⟩)
    | @snoc ws N k j h1 h2 h3 ih =>
      rcases (memP _).mp h2 with q | q | ⟨q1, q2⟩
      · have hk := (hs.ps _ q).1
        rcases ih with z | ⟨_, z⟩ | ⟨u, v, _, _, z⟩
        · exact .inl (.snoc z q h3)
        · have := z.in hi; omega
        · have := z.in hi; omega
      · have hk := (hi.ps _ q).1
        rcases ih with z | ⟨z0, z⟩ | ⟨u, v, e, z0, z⟩
        · have := z.in hs; omega
        · exact .inr (.inl ⟨z0, .snoc z q h3⟩)
        · exact .inr (.inr ⟨u, v ++ [N], by rw [e, List.append_assoc], z0, .snoc z q h3⟩)
      · have hk := hs.ls _ q1
        rcases ih with z | ⟨_, z⟩ | ⟨u, v, _, _, z⟩
        · exact .inr (.inr ⟨ws, [N], rfl, ⟨k, q1, z⟩, .one q2 h3⟩)
        · have := z.in hi; omega
        · have := z.in hi; omega
  · rintro (h | ⟨h0, h⟩ | ⟨u, v, rfl, ⟨k, hk, hu⟩, hv⟩)
    · exact h.mono (fun x hx => (memF x).mpr (.inl hx)) (fun x hx => (memP x).mpr (.inl hx))
    · exact h.mono (fun x hx => (memF x).mpr (.inr ⟨h0, hx⟩)) (fun x hx => (memP x).mpr (.inr (.inl hx)))
    · exact up hv hk hu
theorem rd_row {s i : Out} {a b c : Nat} (hs : OIn s a b) (hi : OIn i b c) {nm : Nat → Str} {ws : List Lt} : Rd (rowStep s i) nm ws ↔ ∃ u v, ws = u ++ v ∧ Rd s nm u ∧ Rd i nm v := by
  have memL : ∀ x, x ∈ (rowStep s i).lasts ↔ (i.none = true ∧ x ∈ s.lasts) ∨ x ∈ i.lasts := fun x => by
    show x ∈ (if i.none = true then s.lasts ++ i.lasts else i.lasts) ↔ _
    split
    · rename_i h; simp [h]
    · rename_i h; simp [h]
  have hn : (rowStep s i).none = true ↔ s.none = true ∧ i.none = true := by
    show (s.none && i.none) = true ↔ _
    rw [Bool.and_eq_true]
  constructor
  · rintro (⟨rfl, h⟩ | ⟨j, hj, h⟩)
    · exact ⟨[], [], rfl, .inl ⟨rfl, (hn.mp h).1⟩, .inl ⟨rfl, (hn.mp h).2⟩⟩
    · rcases (walk_row hs hi).mp h with z | ⟨z0, z⟩ | ⟨u, v, e, z0, z⟩
      · have := z.in hs
        rcases (memL j).mp hj with ⟨q1, q2⟩ | q
        · exact ⟨ws, [], by simp, .inr ⟨j, q2, z⟩, .inl ⟨rfl, q1⟩⟩
        · have := hi.ls _ q; omega
      · have := z.in hi
        rcases (memL j).mp hj with ⟨q1, q2⟩ | q
        · have := hs.ls _ q2; omega
        · exact ⟨[], ws, rfl, .inl ⟨rfl, z0⟩, .inr ⟨j, q, z⟩⟩
      · have := z.in hi
        rcases (memL j).mp hj with ⟨q1, q2⟩ | q
        · have := hs.ls _ q2; omega
        · exact ⟨u, v, e, .inr z0, .inr ⟨j, q, z⟩⟩
  · rintro ⟨u, v, rfl, (⟨rfl, h1⟩ | ⟨k, hk, h1⟩), (⟨rfl, h2⟩ | ⟨j, hj, h2⟩)⟩
    · exact .inl ⟨rfl, hn.mpr ⟨h1, h2⟩⟩
    · exact .inr ⟨j, (memL j).mpr (.inr hj), (walk_row hs hi).mpr (.inr (.inl ⟨h1, h2⟩))⟩
    · rw [List.append_nil]
      exact .inr ⟨k, (memL k).mpr (.inl ⟨h2, hk⟩), (walk_row hs hi).mpr (.inl h1)⟩
    · exact .inr ⟨j, (memL j).mpr (.inr hj), (walk_row hs hi).mpr (.inr (.inr ⟨u, v, rfl, ⟨k, hk, h1⟩, h2⟩))⟩
theorem walk_any {s i : Out} {a b c : Nat} (hs : OIn s a b) (hi : OIn i b c) {nm : Nat → Str} {ws : List Lt} {j : Nat} : Walk (anyStep s i) nm ws j ↔ Walk s nm ws j ∨ Walk i nm ws j := by
  have memF : ∀ x, x ∈ (anyStep s i).firsts ↔ x ∈ s.firsts ∨ x ∈ i.firsts := fun x => List.mem_append
  have memP : ∀ x, x ∈ (anyStep s i).pairs ↔ x ∈ s.pairs ∨ x ∈ i.pairs := fun x => List.mem_append
  constructor
  · intro h
    induction h with
    | @one N j h1 h2 => exact ((memF j).mp h1).imp (fun q => .one q h2) fun q => .one q h2
    | @snoc ws N k j h1 h2 h3 ih =>
      rcases (memP _).mp h2 with q | q
      · have hk := (hs.ps _ q).1
        rcases ih with z | z
        · exact .inl (.snoc z q h3)
        · have := z.in hi; omega
      · have hk := (hi.ps _ q).1
        rcases ih with z | z
        · have := z.in hs; omega
        · exact .inr (.snoc z q h3)
  · rintro (h | h)
    · exact h.mono (fun x hx => (memF x).mpr (.inl hx)) (fun x hx => (memP x).mpr (.inl hx))
    · exact h.mono (fun x hx => (memF x).mpr (.inr hx)) (fun x hx => (memP x).mpr (.inr hx))
theorem rd_any {s i : Out} {a b c : Nat} (hs : OIn s a b) (hi : OIn i b c) {nm : Nat → Str} {ws : List Lt} : Rd (anyStep s i) nm ws ↔ Rd s nm ws ∨ Rd i nm ws := by
  have memL : ∀ x, x ∈ (anyStep s i).lasts ↔ x ∈ s.lasts ∨ x ∈ i.lasts := fun x => List.mem_append
  have hn : (anyStep s i).none = true ↔ s.none = true ∨ i.none = true := by
    show (s.none || i.none) = true ↔ _
    rw [Bool.or_eq_true]
  constructor
  · rintro (⟨rfl, h⟩ | ⟨j, hj, h⟩)
    · exact (hn.mp h).imp (fun q => .inl ⟨rfl, q⟩) fun q => .inl ⟨rfl, q⟩
    · rcases (walk_any hs hi).mp h with z | z
      · have := z.in hs
        rcases (memL j).mp hj with q | q
        · exact .inl (.inr ⟨j, q, z⟩)
        · have := hi.ls _ q; omega
      · have := z.in hi
        rcases (memL j).mp hj with q | q
        · have := hs.ls _ q; omega
        · exact .inr (.inr ⟨j, q, z⟩)
  · rintro ((⟨rfl, h⟩ | ⟨j, hj, h⟩) | (⟨rfl, h⟩ | ⟨j, hj, h⟩))
    · exact .inl ⟨rfl, hn.mpr (.inl h)⟩
    · exact .inr ⟨j, (memL j).mpr (.inl hj), (walk_any hs hi).mpr (.inl h)⟩
    · exact .inl ⟨rfl, hn.mpr (.inr h)⟩
    · exact .inr ⟨j, (memL j).mpr (.inr hj), (walk_any hs hi).mpr (.inr h)⟩
/-- a nonempty word of o -/
def Full (o : Out) (nm : Nat → Str) (ws : List Lt) : Prop := ∃ k ∈ o.lasts, Walk o nm ws k
/-- with the steps from the ends back to the starts -/
def loopO (o : Out) (v n : Bool) : Out := ⟨o.many, v, n, o.firsts, o.lasts, o.pairs ++ btw o.lasts o.firsts⟩
theorem star_snoc {A : List Lt → Prop} {a b : List Lt} (h : Star A a) (hb : A b) : Star A (a ++ b) := by
  induction h with
  | nil => simpa using Star.cons hb .nil
  | cons h1 _ ih => rw [List.append_assoc]; exact .cons h1 ih
theorem walk_loop {o : Out} {v n : Bool} {nm : Nat → Str} {ws : List Lt} {j : Nat} : Walk (loopO o v n) nm ws j ↔ ∃ a b, ws = a ++ b ∧ Star (Full o nm) a ∧ Walk o nm b j := by
  have memP : ∀ x, x ∈ (loopO o v n).pairs ↔ x ∈ o.pairs ∨ (x.1 ∈ o.lasts ∧ x.2 ∈ o.firsts) := fun x => by
    show x ∈ o.pairs ++ btw o.lasts o.firsts ↔ _
    rw [List.mem_append, mem_btw]
  have up1 : ∀ {b j}, Walk o nm b j → Walk (loopO o v n) nm b j := fun h => Walk.mono (o := o) (o' := loopO o v n) (fun _ hx => hx) (fun x hx => (memP x).mpr (.inl hx)) h
  have up2 : ∀ {b j}, Walk o nm b j → ∀ {a k}, k ∈ o.lasts → Walk (loopO o v n) nm a k → Walk (loopO o v n) nm (a ++ b) j := fun {b j} h => by
    induction h with
    | @one N j h1 h2 =>
      intro a k hk ha
      exact .snoc ha ((memP _).mpr (.inr ⟨hk, h1⟩)) h2
    | @snoc ws N k' j _ h2 h3 ih =>
      intro a k hk ha
      rw [← List.append_assoc]
      exact .snoc (ih hk ha) ((memP _).mpr (.inl h2)) h3
  constructor
  · intro h
    induction h with
    | @one N j h1 h2 => exact ⟨[], [N], rfl, .nil, .one h1 h2⟩
    | @snoc ws N k j h1 h2 h3 ih =>
      obtain ⟨a, b, e, ha, hb⟩ := ih
      rcases (memP _).mp h2 with q | ⟨q1, q2⟩
      · exact ⟨a, b ++ [N], by rw [e, List.append_assoc], ha, .snoc hb q h3⟩
      · exact ⟨ws, [N], rfl, by rw [e]; exact star_snoc ha ⟨k, q1, hb⟩, .one q2 h3⟩
  · rintro ⟨a, b, rfl, ha, hb⟩
    have key : ∀ a, Star (Full o nm) a → ∀ pre, (pre = [] ∨ ∃ k ∈ o.lasts, Walk (loopO o v n) nm pre k) → (pre ++ a = [] ∨ ∃ k ∈ o.lasts, Walk (loopO o v n) nm (pre ++ a) k) := by
      intro a ha
      induction ha with
      | nil => intro pre h; simpa using h
      | @cons x y hx _ ih =>
        intro pre h
        rw [← List.append_assoc]
        refine ih _ (.inr ?_)
        obtain ⟨k, hk, hw⟩ := hx
        rcases h with e | ⟨k0, hk0, hw0⟩
        · subst e
          exact ⟨k, hk, up1 hw⟩
        · exact ⟨k, hk, up2 hw hk0 hw0⟩
    rcases key a ha [] (.inl rfl) with e | ⟨k, hk, hw⟩
    · have e : a = [] := e
      subst e
      exact up1 hb
    · exact up2 hb hk hw
end DL

set_option Elab.async false
set_option linter.all false
set_option maxRecDepth 100000
set_option autoImplicit false
set_option maxHeartbeats 4000000
/-! E34: an outline reads what its pattern admits; the names of a tree by patterns (plain). -/
namespace DL
open PySem PySem.Spec L2
theorem acc_one (x : Str) (ws : List Lt) : Acc (.one x) ws ↔ ∃ N : Lt, ws = [N] ∧ N x := by rw [Acc]
theorem acc_row (ps : List Pat) (ws : List Lt) : Acc (.row ps) ws ↔ AccR ps ws := by rw [Acc]
theorem acc_any (ps : List Pat) (ws : List Lt) : Acc (.any ps) ws ↔ AccA ps ws := by rw [Acc]
theorem acc_may (p : Pat) (ws : List Lt) : Acc (.may p) ws ↔ ws = [] ∨ Acc p ws := by rw [Acc]
theorem acc_many (p : Pat) (ws : List Lt) : Acc (.many p) ws ↔ Star (Acc p) ws := by rw [Acc]
theorem acc_some (p : Pat) (ws : List Lt) : Acc (.some p) ws ↔ ∃ a b, ws = a ++ b ∧ Acc p a ∧ Star (Acc p) b := by rw [Acc]
theorem accR_nil (ws : List Lt) : AccR [] ws ↔ ws = [] := by rw [AccR]
theorem accR_cons (p : Pat) (ps : List Pat) (ws : List Lt) : AccR (p :: ps) ws ↔ ∃ a b, ws = a ++ b ∧ Acc p a ∧ AccR ps b := by rw [AccR]
theorem accA_nil (ws : List Lt) : AccA [] ws ↔ False := by rw [AccA]
theorem accA_cons (p : Pat) (ps : List Pat) (ws : List Lt) : AccA (p :: ps) ws ↔ Acc p ws ∨ AccA ps ws := by rw [AccA]
theorem star_dec {F : List Lt → Prop} {ws : List Lt} (h : Star F ws) : ws = [] ∨ ∃ a b, ws = a ++ b ∧ Star F a ∧ F b := by
  induction h with
  | nil => exact .inl rfl
  | @cons a b ha hb ih =>
    rcases ih with e | ⟨c, d, e, hc, hd⟩
    · subst e
      exact .inr ⟨[], a, by simp, .nil, ha⟩
    · subst e
      exact .inr ⟨a ++ c, d, by rw [List.append_assoc], .cons ha hc, hd⟩
theorem star_mono {F G : List Lt → Prop} (h : ∀ ws, F ws → Star G ws) {ws : List Lt} (hs : Star F ws) : Star G ws := by
  induction hs with
  | nil => exact .nil
  | @cons a b ha _ ih =>
    have key : ∀ a, Star G a → ∀ b, Star G b → Star G (a ++ b) := by
      intro a ha
      induction ha with
      | nil => intro b hb; exact hb
      | cons h1 _ ih => intro b hb; rw [List.append_assoc]; exact .cons h1 (ih b hb)
    exact key a (h a ha) b ih
theorem star_one {F : List Lt → Prop} {ws : List Lt} (h : F ws) : Star F ws := by
  have := Star.cons h (Star.nil (A := F))
  rwa [List.append_nil] at this
theorem star_iff {F G : List Lt → Prop} (h1 : ∀ ws, F ws → Star G ws) (h2 : ∀ ws, G ws → Star F ws) (ws : List Lt) : Star F ws ↔ Star G ws := ⟨star_mono h1, star_mono h2⟩
theorem rd_full {o : Out} {nm : Nat → Str} {ws : List Lt} : Rd o nm ws ↔ (ws = [] ∧ o.none = true) ∨ Full o nm ws := Iff.rfl
theorem rd_loop {o : Out} {v n : Bool} {nm : Nat → Str} {ws : List Lt} : Rd (loopO o v n) nm ws ↔ (ws = [] ∧ n = true) ∨ ∃ a b, ws = a ++ b ∧ Star (Full o nm) a ∧ Full o nm b := by
  unfold Rd
  refine or_congr Iff.rfl ⟨?_, ?_⟩
  · rintro ⟨j, hj, h⟩
    obtain ⟨a, b, e, h1, h2⟩ := walk_loop.mp h
    exact ⟨a, b, e, h1, j, hj, h2⟩
  · rintro ⟨a, b, e, h1, j, hj, h2⟩
    exact ⟨j, hj, walk_loop.mpr ⟨a, b, e, h1, h2⟩⟩
theorem star_rd {o : Out} {nm : Nat → Str} (ws : List Lt) : Star (Rd o nm) ws ↔ Star (Full o nm) ws := by
  refine star_iff (fun ws h => ?_) (fun ws h => ?_) ws
  · rcases h with ⟨e, _⟩ | h
    · subst e; exact .nil
    · exact star_one h
  · exact star_one (.inr h)
/-- the names of a pattern's places, from b on -/
def NmAt (nm : Nat → Str) (b : Nat) (ns : List Str) : Prop := ∀ i x, ns[i]? = some x → nm (b + 1 + i) = x
theorem NmAt.left {nm : Nat → Str} {b : Nat} {l r : List Str} (h : NmAt nm b (l ++ r)) : NmAt nm b l := fun i x hx => by
  refine h i x ?_
  have : i < l.length := by
    by_cases q : i < l.length
    · exact q
    · rw [List.getElem?_eq_none (by omega)] at hx; cases hx
  rw [List.getElem?_append_left this]
  exact hx
theorem NmAt.right {nm : Nat → Str} {b : Nat} {l r : List Str} (h : NmAt nm b (l ++ r)) : NmAt nm (b + l.length) r := fun i x hx => by
  have := h (l.length + i) x (by rw [List.getElem?_append_right (by omega)]; simpa using hx)
  rw [← this]
  congr 1
  omega
/-- the outline of p reads what p admits; what never comes admits nothing -/
def Glu (p : Pat) : Prop := ∀ (nm : Nat → Str) (b : Nat), NmAt nm b (namesAt p) → (∀ ws, Rd (outl p b) nm ws ↔ Acc p ws) ∧ ((outl p b).void = true → ∀ ws, ¬ Acc p ws)
theorem glu_rows (nm : Nat → Str) : ∀ (ps : List Pat) (b a : Nat) (s : Out), (∀ p ∈ ps, Glu p) → NmAt nm b (namesAts ps) → a ≤ b → OIn s a b → (∀ ws, Rd ((outls ps b).foldl rowStep s) nm ws ↔ ∃ u v, ws = u ++ v ∧ Rd s nm u ∧ AccR ps v) ∧ (((outls ps b).foldl rowStep s).void = true → s.void = true ∨ ∀ ws, ¬ AccR ps ws)
  | [], b, a, s, _, _, _, _ => by
    refine ⟨fun ws => ?_, fun h => .inl h⟩
    show Rd s nm ws ↔ _
    constructor
    · intro h
      exact ⟨ws, [], by simp, h, rfl⟩
    · rintro ⟨u, v, rfl, h, e⟩
      have e : v = [] := e
      subst e
      simpa using h
  | p :: ps, b, a, s, hp, hn, hab, hs => by
    rw [namesAts] at hn
    obtain ⟨g1, g2⟩ := hp p List.mem_cons_self nm b hn.left
    have hi := outl_in p b
    have hs' : OIn (rowStep s (outl p b)) a (b + cnt p) := rowStep_in (hs.mono (Nat.le_refl _) (by omega)) (hi.mono hab (Nat.le_refl _))
    obtain ⟨k1, k2⟩ := glu_rows nm ps (b + cnt p) a (rowStep s (outl p b)) (fun p hq => hp p (List.mem_cons_of_mem _ hq)) hn.right (by omega) hs'
    rw [outls, List.foldl_cons, many_cnt]
    refine ⟨fun ws => ?_, fun h => ?_⟩
    · rw [k1]
      constructor
      · rintro ⟨u, v, rfl, h1, h2⟩
        obtain ⟨u1, u2, rfl, h3, h4⟩ := (rd_row hs hi).mp h1
        exact ⟨u1, u2 ++ v, by rw [List.append_assoc], h3, u2, v, rfl, (g1 _).mp h4, h2⟩
      · rintro ⟨u, v, rfl, h1, x, y, rfl, h2, h3⟩
        exact ⟨u ++ x, y, by rw [List.append_assoc], (rd_row hs hi).mpr ⟨u, x, rfl, h1, (g1 _).mpr h2⟩, h3⟩
    · rcases k2 h with q | q
      · have q : (s.void || (outl p b).void) = true := q
        rw [Bool.or_eq_true] at q
        rcases q with q | q
        · exact .inl q
        · exact .inr fun ws ⟨x, y, _, h2, _⟩ => g2 q x h2
      · exact .inr fun ws ⟨x, y, _, _, h3⟩ => q y h3
theorem glu_anys (nm : Nat → Str) : ∀ (ps : List Pat) (b a : Nat) (s : Out), (∀ p ∈ ps, Glu p) → NmAt nm b (namesAts ps) → a ≤ b → OIn s a b → (∀ ws, Rd ((outls ps b).foldl anyStep s) nm ws ↔ Rd s nm ws ∨ AccA ps ws) ∧ (((outls ps b).foldl anyStep s).void = true → s.void = true ∧ ∀ ws, ¬ AccA ps ws)
  | [], b, a, s, _, _, _, _ => by
    refine ⟨fun ws => ?_, fun h => ⟨h, fun ws q => q⟩⟩
    show Rd s nm ws ↔ _
    constructor
    · intro h
      exact .inl h
    · rintro (h | h)
      · exact h
      · exact h.elim
  | p :: ps, b, a, s, hp, hn, hab, hs => by
    rw [namesAts] at hn
    obtain ⟨g1, g2⟩ := hp p List.mem_cons_self nm b hn.left
    have hi := outl_in p b
    have hs' : OIn (anyStep s (outl p b)) a (b + cnt p) := anyStep_in (hs.mono (Nat.le_refl _) (by omega)) (hi.mono hab (Nat.le_refl _))
    obtain ⟨k1, k2⟩ := glu_anys nm ps (b + cnt p) a (anyStep s (outl p b)) (fun p hq => hp p (List.mem_cons_of_mem _ hq)) hn.right (by omega) hs'
    rw [outls, List.foldl_cons, many_cnt]
    refine ⟨fun ws => ?_, fun h => ?_⟩
    · rw [k1, rd_any hs hi, g1, or_assoc]
      exact Iff.rfl
    · obtain ⟨q1, q2⟩ := k2 h
      have q1 : (s.void && (outl p b).void) = true := q1
      rw [Bool.and_eq_true] at q1
      refine ⟨q1.1, fun ws q => ?_⟩
      rcases q with q | q
      · exact g2 q1.2 ws q
      · exact q2 ws q
theorem glu (p : Pat) : Glu p := by
  refine Pat.ind (C := Glu) ?_ ?_ ?_ ?_ ?_ ?_ p
  · intro x nm b hn
    refine ⟨fun ws => ?_, fun h => by simp [outl] at h⟩
    have hx : nm (b + 1) = x := hn 0 x rfl
    rw [outl, acc_one]
    unfold Rd
    constructor
    · rintro (⟨_, h⟩ | ⟨j, hj, h⟩)
      · cases h
      · cases h with
        | @one N j h1 h2 =>
          have : j = b + 1 := by simpa using h1
          subst this
          rw [hx] at h2
          exact ⟨N, rfl, h2⟩
        | snoc _ h2 _ => cases h2
    · rintro ⟨N, rfl, h⟩
      exact .inr ⟨b + 1, by simp, .one (by simp) (by rw [hx]; exact h)⟩
  · intro ps h nm b hn
    rw [namesAt] at hn
    have e0 : OIn row0 b b := ⟨fun x h => absurd h (by simp [row0]), fun x h => absurd h (by simp [row0]), fun x h => absurd h (by simp [row0])⟩
    obtain ⟨k1, k2⟩ := glu_rows nm ps b b row0 h hn (Nat.le_refl _) e0
    rw [outl]
    have hr0 : ∀ u, Rd row0 nm u ↔ u = [] := fun u => by
      unfold Rd
      constructor
      · rintro (⟨e, _⟩ | ⟨j, hj, _⟩)
        · exact e
        · simp [row0] at hj
      · intro e; exact .inl ⟨e, rfl⟩
    have k1' : ∀ ws, Rd ((outls ps b).foldl rowStep row0) nm ws ↔ AccR ps ws := fun ws => by
      rw [k1]
      constructor
      · rintro ⟨u, v, rfl, h1, h2⟩
        rw [(hr0 u).mp h1]
        exact h2
      · intro h
        exact ⟨[], ws, rfl, (hr0 []).mpr rfl, h⟩
    have k2' : ((outls ps b).foldl rowStep row0).void = true → ∀ ws, ¬ AccR ps ws := fun h => by
      rcases k2 h with q | q
      · cases q
      · exact q
    unfold rowEnd
    split
    · rename_i hv
      refine ⟨fun ws => ⟨?_, fun q => absurd ((acc_row _ _).mp q) (k2' hv ws)⟩, fun _ ws q => k2' hv ws ((acc_row _ _).mp q)⟩
      rintro (⟨_, h⟩ | ⟨j, hj, _⟩)
      · cases h
      · cases hj
    · rename_i hv
      refine ⟨fun ws => ?_, fun q => by cases q⟩
      rw [acc_row, ← k1']
      have mono : ∀ {o o' : Out} {ws : List Lt}, o.none = o'.none → o.firsts = o'.firsts → o.lasts = o'.lasts → o.pairs = o'.pairs → Rd o nm ws → Rd o' nm ws := fun {o o' ws} e1 e2 e3 e4 h => by
        rcases h with ⟨e, h⟩ | ⟨j, hj, h⟩
        · exact .inl ⟨e, e1 ▸ h⟩
        · exact .inr ⟨j, e3 ▸ hj, h.mono (fun x hx => e2 ▸ hx) (fun x hx => e4 ▸ hx)⟩
      exact ⟨mono rfl rfl rfl rfl, mono rfl rfl rfl rfl⟩
  · intro ps h nm b hn
    rw [namesAt] at hn
    have e0 : OIn any0 b b := ⟨fun x h => absurd h (by simp [any0]), fun x h => absurd h (by simp [any0]), fun x h => absurd h (by simp [any0])⟩
    obtain ⟨k1, k2⟩ := glu_anys nm ps b b any0 h hn (Nat.le_refl _) e0
    rw [outl]
    refine ⟨fun ws => ?_, fun q ws h => (k2 q).2 ws ((acc_any _ _).mp h)⟩
    rw [k1, acc_any]
    constructor
    · rintro ((⟨_, h⟩ | ⟨j, hj, _⟩) | h)
      · cases h
      · cases hj
      · exact h
    · exact .inr
  · intro p h nm b hn
    rw [namesAt] at hn
    obtain ⟨g1, g2⟩ := h nm b hn
    rw [outl]
    refine ⟨fun ws => ?_, fun q => by cases q⟩
    rw [acc_may, ← g1]
    constructor
    · rintro (⟨e, _⟩ | ⟨j, hj, h⟩)
      · exact .inl e
      · exact .inr (.inr ⟨j, hj, by refine Walk.mono ?_ ?_ h <;> exact fun _ hx => hx⟩)
    · rintro (e | ⟨e, _⟩ | ⟨j, hj, h⟩)
      · exact .inl ⟨e, rfl⟩
      · exact .inl ⟨e, rfl⟩
      · exact .inr ⟨j, hj, by refine Walk.mono ?_ ?_ h <;> exact fun _ hx => hx⟩
  · intro p h nm b hn
    rw [namesAt] at hn
    obtain ⟨g1, g2⟩ := h nm b hn
    rw [outl]
    refine ⟨fun ws => ?_, fun q => by cases q⟩
    have e : Star (Acc p) ws ↔ Star (Full (outl p b) nm) ws := by
      rw [← star_rd]
      exact star_iff (fun ws h => star_one ((g1 ws).mpr h)) (fun ws h => star_one ((g1 ws).mp h)) ws
    rw [acc_many, e]
    refine (rd_loop (o := outl p b) (v := false) (n := true)).trans ⟨?_, fun h => ?_⟩
    · rintro (⟨e, _⟩ | ⟨a, b, rfl, h1, h2⟩)
      · subst e; exact .nil
      · exact star_snoc h1 h2
    · rcases star_dec h with e | q
      · exact .inl ⟨e, rfl⟩
      · exact .inr q
  · intro p h nm b hn
    rw [namesAt] at hn
    obtain ⟨g1, g2⟩ := h nm b hn
    rw [outl]
    refine ⟨fun ws => ?_, fun q ws h => ((acc_some _ _).mp h).elim fun x ⟨y, _, h1, _⟩ => g2 q x h1⟩
    rw [acc_some]
    have e : ∀ ws, Star (Acc p) ws ↔ Star (Full (outl p b) nm) ws := fun ws => by
      rw [← star_rd]
      exact star_iff (fun ws h => star_one ((g1 ws).mpr h)) (fun ws h => star_one ((g1 ws).mp h)) ws
    refine (rd_loop (o := outl p b) (v := (outl p b).void) (n := (outl p b).none)).trans ⟨?_, ?_⟩
    · rintro (⟨rfl, h⟩ | ⟨x, y, rfl, h1, h2⟩)
      · exact ⟨[], [], rfl, (g1 _).mp (.inl ⟨rfl, h⟩), .nil⟩
      · cases h1 with
        | nil => exact ⟨y, [], by simp, (g1 _).mp (.inr h2), .nil⟩
        | @cons c d hc hd => exact ⟨c, d ++ y, by rw [List.append_assoc], (g1 _).mp (.inr hc), (e _).mpr (star_snoc hd h2)⟩
    · rintro ⟨x, y, rfl, h1, h2⟩
      have h2 := (e _).mp h2
      rcases (g1 _).mpr h1 with ⟨rfl, h⟩ | h
      · rcases star_dec h2 with q | q
        · subst q
          exact .inl ⟨rfl, h⟩
        · exact .inr q
      · refine .inr ?_
        rcases star_dec h2 with q | ⟨c, d, q, hc, hd⟩
        · subst q
          exact ⟨[], x, by simp, .nil, h⟩
        · subst q
          exact ⟨x ++ c, d, by rw [List.append_assoc], .cons h hc, hd⟩
/-! ### reading by rows -/
theorem rch_snoc' {p : Pat} {ws : List Lt} {N : Lt} {j : Nat} : rch p (ws ++ [N]) j ↔ ∃ k, rch p ws k ∧ Aft p k j ∧ N (nmOf p j) := by
  unfold rch
  rw [List.foldl_append]
  exact Iff.rfl
theorem rch_rev {p : Pat} : ∀ (vs : List Lt) (j : Nat), rch p vs.reverse j ↔ (vs = [] ∧ j = 0) ∨ Walk (og p) (nmOf p) vs.reverse j
  | [], j => by
    constructor
    · intro h
      exact .inl ⟨rfl, h⟩
    · rintro (⟨_, h⟩ | h)
      · exact h
      · exact absurd rfl h.ne
  | N :: vs, j => by
    rw [List.reverse_cons, rch_snoc']
    constructor
    · rintro ⟨k, hk, ha, hN⟩
      refine .inr ?_
      unfold Aft at ha
      rcases (rch_rev vs k).mp hk with ⟨rfl, rfl⟩ | h
      · exact .one (by simpa using ha) hN
      · have := h.in (og_in p)
        rw [if_neg (by omega)] at ha
        exact .snoc h ha hN
    · rintro (⟨h, _⟩ | h)
      · cases h
      · generalize hw : vs.reverse ++ [N] = w at h
        cases h with
        | @one M j h1 h2 =>
          have e : vs.reverse = [] ∧ N = M := by
            have := List.append_eq_singleton_iff.mp hw
            rcases this with ⟨a, b⟩ | ⟨a, b⟩
            · exact ⟨a, by simpa using b⟩
            · cases b
          obtain ⟨e1, rfl⟩ := e
          refine ⟨0, (rch_rev vs 0).mpr (.inl ⟨by simpa using e1, rfl⟩), ?_, h2⟩
          unfold Aft
          rw [if_pos rfl]
          exact h1
        | @snoc ws M k j h1 h2 h3 =>
          obtain ⟨e1, e2⟩ := List.append_inj' hw rfl
          have e2 : N = M := by simpa using e2
          subst e2
          rw [← e1] at h1
          have := h1.in (og_in p)
          refine ⟨k, (rch_rev vs k).mpr (.inr h1), ?_, h3⟩
          unfold Aft
          rw [if_neg (by omega)]
          exact h2
theorem rch_iff {p : Pat} (ws : List Lt) (j : Nat) : rch p ws j ↔ (ws = [] ∧ j = 0) ∨ Walk (og p) (nmOf p) ws j := by
  have := rch_rev (p := p) ws.reverse j
  rw [List.reverse_reverse] at this
  rw [this]
  simp
theorem rch_rd {p : Pat} (ws : List Lt) : (∃ j, rch p ws j ∧ EndP p j) ↔ Rd (og p) (nmOf p) ws := by
  unfold Rd
  constructor
  · rintro ⟨j, h1, h2⟩
    unfold EndP at h2
    rcases (rch_iff ws j).mp h1 with ⟨rfl, rfl⟩ | h
    · exact .inl ⟨rfl, by simpa using h2⟩
    · have := h.in (og_in p)
      rw [if_neg (by omega)] at h2
      exact .inr ⟨j, h2, h⟩
  · rintro (⟨rfl, h⟩ | ⟨j, hj, h⟩)
    · refine ⟨0, (rch_iff [] 0).mpr (.inl ⟨rfl, rfl⟩), ?_⟩
      unfold EndP
      rw [if_pos rfl]
      exact h
    · have := h.in (og_in p)
      refine ⟨j, (rch_iff ws j).mpr (.inr h), ?_⟩
      unfold EndP
      rw [if_neg (by omega)]
      exact hj
theorem nmAt_og (p : Pat) : NmAt (nmOf p) 0 (namesAt p) := fun i x hx => by
  unfold nmOf
  rw [show 0 + 1 + i - 1 = i by omega, List.getD_eq_getElem?_getD, hx]
  rfl
theorem rch_acc (p : Pat) (ws : List Lt) : (∃ j, rch p ws j ∧ EndP p j) ↔ Acc p ws := (rch_rd ws).trans ((glu p _ _ (nmAt_og p)).1 ws)
theorem void_acc {p : Pat} {ws : List Lt} (h : Acc p ws) : (og p).void = false := by
  cases q : (og p).void with
  | false => rfl
  | true => exact absurd h ((glu p _ _ (nmAt_og p)).2 q ws)
theorem nmW_iff (S : Schema) (g w : Str) (ks : List Tr) (x : Str) : NmW S (.node g w ks) x ↔ ∃ r ∈ S.rules, r.name = x ∧ fits r (lab (.node g w ks)) = true ∧ Acc r.pat (ks.map (NmW S)) := by
  rw [NmW, NmWs_eq]
  constructor
  · rintro ⟨r, h1, h2, _, h4, h5⟩
    exact ⟨r, h1, h2, h4, (rch_acc _ _).mp h5⟩
  · rintro ⟨r, h1, h2, h4, h5⟩
    exact ⟨r, h1, h2, void_acc h5, h4, (rch_acc _ _).mpr h5⟩
end DL

set_option Elab.async false
set_option linter.all false
set_option maxRecDepth 100000
set_option autoImplicit false
set_option maxHeartbeats 4000000
/-! E35: a schema told anew admits the same trees (plain). -/
namespace DL
open PySem PySem.Spec L2
def ren (f : Str → Str) (N : Lt) : Lt := fun x => N (f x)
/-- p' says of the new names what p says of the old -/
def Told (f : Str → Str) (p p' : Pat) : Prop := ∀ ws : List Lt, Acc p' ws ↔ Acc p (ws.map (ren f))
structure Tld (f : Str → Str) (p p' : Pat) : Prop where
  says : Told f p p'
  depth : p'.depth ≤ 2 * p.depth
  nodes : p'.nodes ≤ 2 * p.nodes
  cnt : DL.cnt p' = DL.cnt p
inductive Tlds (f : Str → Str) : List Pat → List Pat → Prop
  | nil : Tlds f [] []
  | cons {p p' : Pat} {ps ps' : List Pat} : Tld f p p' → Tlds f ps ps' → Tlds f (p :: ps) (p' :: ps')
section
variable {f : Str → Str} {p p' q : Pat} {ps ps' qs : List Pat}
theorem Tlds.snoc (h : Tlds f ps ps') (k : Tld f p p') : Tlds f (ps ++ [p]) (ps' ++ [p']) := by
  induction h with
  | nil => exact .cons k .nil
  | cons h1 _ ih => exact .cons h1 ih
theorem Tlds.len (h : Tlds f ps ps') : ps'.length = ps.length := by
  induction h with
  | nil => rfl
  | cons _ _ ih => exact congrArg (· + 1) ih
theorem map_split {ws a b : List Lt} {g : Lt → Lt} (h : ws.map g = a ++ b) : ∃ x y, ws = x ++ y ∧ x.map g = a ∧ y.map g = b := by
  obtain ⟨x, y, h1, h2, h3⟩ := List.map_eq_append_iff.mp h
  exact ⟨x, y, h1, h2, h3⟩
theorem Tlds.row (h : Tlds f ps ps') : ∀ ws, AccR ps' ws ↔ AccR ps (ws.map (ren f)) := by
  induction h with
  | nil => intro ws; rw [accR_nil, accR_nil]; simp
  | @cons p p' ps ps' h1 _ ih =>
    intro ws
    rw [accR_cons, accR_cons]
    constructor
    · rintro ⟨a, b, rfl, ha, hb⟩
      exact ⟨_, _, List.map_append, (h1.says a).mp ha, (ih b).mp hb⟩
    · rintro ⟨a, b, e, ha, hb⟩
      obtain ⟨x, y, rfl, rfl, rfl⟩ := map_split e
      exact ⟨x, y, rfl, (h1.says x).mpr ha, (ih y).mpr hb⟩
theorem Tlds.any (h : Tlds f ps ps') : ∀ ws, AccA ps' ws ↔ AccA ps (ws.map (ren f)) := by
  induction h with
  | nil => intro ws; rw [accA_nil, accA_nil]
  | @cons p p' ps ps' h1 _ ih =>
    intro ws
    rw [accA_cons, accA_cons]
    exact or_congr (h1.says ws) (ih ws)
theorem Tlds.depth (h : Tlds f ps ps') : depths ps' ≤ 2 * depths ps := by
  induction h with
  | nil => simp [depths]
  | cons h1 _ ih => have := h1.depth; unfold depths; omega
theorem Tlds.nodes (h : Tlds f ps ps') : nodess ps' ≤ 2 * nodess ps := by
  induction h with
  | nil => simp [nodess]
  | cons h1 _ ih => have := h1.nodes; unfold nodess; omega
theorem cnts_cons (p : Pat) (ps : List Pat) : cnts (p :: ps) = cnt p + cnts ps := by unfold cnts cnt; rw [namesAts, List.length_append]
theorem cnt_row (ps : List Pat) : cnt (.row ps) = cnts ps := by unfold cnt cnts; rw [namesAt]
theorem cnt_any (ps : List Pat) : cnt (.any ps) = cnts ps := by unfold cnt cnts; rw [namesAt]
theorem cnt_may (p : Pat) : cnt (.may p) = cnt p := by unfold cnt; rw [namesAt]
theorem cnt_many (p : Pat) : cnt (.many p) = cnt p := by unfold cnt; rw [namesAt]
theorem cnt_some (p : Pat) : cnt (.some p) = cnt p := by unfold cnt; rw [namesAt]
theorem cnt_one (x : Str) : cnt (.one x) = 1 := by unfold cnt; rw [namesAt]; rfl
theorem cnts_nil : cnts [] = 0 := by unfold cnts; rw [namesAts]; rfl
theorem Tlds.cnt (h : Tlds f ps ps') : cnts ps' = cnts ps := by
  induction h with
  | nil => rfl
  | cons h1 _ ih => have := h1.cnt; rw [cnts_cons, cnts_cons, ih, this]
theorem accA_iff (ps : List Pat) (ws : List Lt) : AccA ps ws ↔ ∃ p ∈ ps, Acc p ws := by
  induction ps with
  | nil => rw [accA_nil]; simp
  | cons p ps ih => rw [accA_cons, ih]; simp
theorem star_map {A A' : List Lt → Prop} {g : Lt → Lt} (h : ∀ ws, A' ws ↔ A (ws.map g)) (ws : List Lt) : Star A' ws ↔ Star A (ws.map g) := by
  constructor
  · intro q
    induction q with
    | nil => exact .nil
    | cons h1 _ ih => rw [List.map_append]; exact .cons ((h _).mp h1) ih
  · intro q
    generalize e : ws.map g = vs at q
    induction q generalizing ws with
    | nil =>
      have : ws = [] := by simpa using e
      subst this; exact .nil
    | cons h1 _ ih =>
      obtain ⟨x, y, rfl, rfl, rfl⟩ := map_split e
      exact .cons ((h _).mpr h1) (ih y rfl)
theorem tld_one (x : Str) : Tld f (.one x) (.one (f x)) := by
  refine ⟨fun ws => ?_, by unfold Pat.depth; omega, by unfold Pat.nodes; omega, by rw [cnt_one, cnt_one]⟩
  rw [acc_one, acc_one]
  constructor
  · rintro ⟨N, rfl, h⟩
    exact ⟨ren f N, rfl, h⟩
  · rintro ⟨N, e, h⟩
    match ws, e with
    | [M], e =>
      have : ren f M = N := by simpa using e
      subst this
      exact ⟨M, rfl, h⟩
theorem accR_one (q : Pat) (ws : List Lt) : AccR [q] ws ↔ Acc q ws := by
  rw [accR_cons]
  constructor
  · rintro ⟨a, b, rfl, h1, h2⟩
    rw [accR_nil] at h2
    subst h2
    simpa using h1
  · intro h
    exact ⟨ws, [], by simp, h, (accR_nil _).mpr rfl⟩
theorem tld_row (h : Tlds f ps ps') : Tld f (.row ps) (.row ps') := by
  refine ⟨fun ws => ?_, ?_, ?_, ?_⟩
  · rw [acc_row, acc_row]; exact h.row ws
  · have := h.depth; rw [Pat.depth, Pat.depth]; omega
  · have := h.nodes; rw [Pat.nodes, Pat.nodes]; omega
  · rw [cnt_row, cnt_row, h.cnt]
theorem sz1 (q : Pat) : depths [q] = q.depth ∧ nodess [q] = q.nodes ∧ cnts [q] = cnt q := by
  refine ⟨?_, ?_, ?_⟩
  · rw [depths, depths]; omega
  · rw [nodess, nodess]; rfl
  · rw [cnts_cons, cnts_nil]; rfl
theorem tld_row1 (h : Tlds f ps [q]) : Tld f (.row ps) q := by
  refine ⟨fun ws => ?_, ?_, ?_, ?_⟩
  · rw [acc_row, ← h.row, accR_one]
  · have := h.depth; rw [(sz1 q).1] at this; rw [Pat.depth]; omega
  · have := h.nodes; rw [(sz1 q).2.1] at this; rw [Pat.nodes]; omega
  · have := h.cnt; rw [cnts_cons, cnts_nil] at this; rw [cnt_row]; omega
/-- the choices qs say what the choices ps say -/
structure Alts (ps qs : List Pat) : Prop where
  says : ∀ ws, AccA qs ws ↔ AccA ps ws
  depth : depths qs ≤ max (depths ps) 1
  nodes : nodess qs ≤ nodess ps + 1
  cnt : cnts qs = cnts ps
theorem depths_le {n : Nat} : ∀ {ps : List Pat}, (∀ p ∈ ps, p.depth ≤ n) → depths ps ≤ n
  | [], _ => Nat.zero_le _
  | p :: ps, h => by
    have h1 := h p List.mem_cons_self
    have h2 := depths_le (n := n) (ps := ps) fun p hp => h p (List.mem_cons_of_mem _ hp)
    unfold depths; omega
theorem nodess_app : ∀ a b : List Pat, nodess (a ++ b) = nodess a + nodess b
  | [], b => by simp [nodess]
  | p :: a, b => by rw [List.cons_append, nodess, nodess, nodess_app a b]; omega
theorem cnts_app : ∀ a b : List Pat, cnts (a ++ b) = cnts a + cnts b
  | [], b => by rw [cnts_nil]; simp
  | p :: a, b => by rw [List.cons_append, cnts_cons, cnts_cons, cnts_app a b]; omega
theorem nodess_rev : ∀ a : List Pat, nodess a.reverse = nodess a
  | [] => rfl
  | p :: a => by rw [List.reverse_cons, nodess_app, nodess_rev a, nodess, nodess, nodess]; omega
theorem cnts_rev : ∀ a : List Pat, cnts a.reverse = cnts a
  | [] => rfl
  | p :: a => by rw [List.reverse_cons, cnts_app, cnts_rev a, cnts_cons, cnts_cons, cnts_nil]; omega
theorem alts_ways (ps : List Pat) (a b : Bool) : Alts ps ((if a = true then ps.reverse else ps) ++ if b = true then [.any []] else []) := by
  have hm : ∀ p, p ∈ (if a = true then ps.reverse else ps) ↔ p ∈ ps := fun p => by split <;> simp
  have hn : nodess (if a = true then ps.reverse else ps) = nodess ps := by split; exact nodess_rev ps; rfl
  have hc : cnts (if a = true then ps.reverse else ps) = cnts ps := by split; exact cnts_rev ps; rfl
  generalize (if a = true then ps.reverse else ps) = l at hm hn hc
  refine ⟨fun ws => ?_, depths_le fun p hp => ?_, ?_, ?_⟩
  · rw [accA_iff, accA_iff]
    constructor
    · rintro ⟨p, hp, h⟩
      rcases List.mem_append.mp hp with q | q
      · exact ⟨p, (hm p).mp q, h⟩
      · split at q
        · have : p = .any [] := by simpa using q
          subst this
          rw [acc_any, accA_nil] at h
          exact h.elim
        · cases q
    · rintro ⟨p, hp, h⟩
      exact ⟨p, List.mem_append_left _ ((hm p).mpr hp), h⟩
  · rcases List.mem_append.mp hp with q | q
    · have := depth_mem ((hm p).mp q)
      omega
    · split at q
      · have : p = .any [] := by simpa using q
        subst this
        rw [Pat.depth, depths]
        omega
      · cases q
  · rw [nodess_app, hn]
    split
    · rw [nodess, nodess, Pat.nodes, nodess]
      omega
    · rw [nodess]; omega
  · rw [cnts_app, hc]
    split
    · rw [cnts_cons, cnts_nil, cnt_any, cnts_nil]; omega
    · rw [cnts_nil]; omega
theorem tld_any (h : Tlds f ps ps') (k : Alts ps' qs) : Tld f (.any ps) (.any qs) := by
  refine ⟨fun ws => ?_, ?_, ?_, ?_⟩
  · rw [acc_any, acc_any, k.says]; exact h.any ws
  · have := h.depth; have := k.depth; rw [Pat.depth, Pat.depth]; omega
  · have := h.nodes; have := k.nodes; rw [Pat.nodes, Pat.nodes]; omega
  · rw [cnt_any, cnt_any, k.cnt, h.cnt]
theorem tld_any1 (h : Tlds f ps ps') (k : Alts ps' [q]) : Tld f (.any ps) q := by
  refine ⟨fun ws => ?_, ?_, ?_, ?_⟩
  · rw [acc_any, ← h.any, ← k.says, accA_iff]; simp
  · have := h.depth; have := k.depth; rw [(sz1 q).1] at this; rw [Pat.depth]; omega
  · have := h.nodes; have := k.nodes; rw [(sz1 q).2.1] at this; rw [Pat.nodes]; omega
  · have := k.cnt; rw [cnts_cons, cnts_nil] at this; rw [cnt_any, ← h.cnt]; omega
theorem tld_row_of (h : Told f p q) : Told f p (.row [q]) := fun ws => by rw [acc_row, accR_one]; exact h ws
theorem told_may (h : Told f p p') : Told f (.may p) (.may p') := fun ws => by
  rw [acc_may, acc_may, h ws]; simp
theorem told_many (h : Told f p p') : Told f (.many p) (.many p') := fun ws => by
  rw [acc_many, acc_many]; exact star_map h ws
theorem told_some (h : Told f p p') : Told f (.some p) (.some p') := fun ws => by
  rw [acc_some, acc_some]
  constructor
  · rintro ⟨a, b, rfl, ha, hb⟩
    exact ⟨_, _, List.map_append, (h a).mp ha, (star_map h b).mp hb⟩
  · rintro ⟨a, b, e, ha, hb⟩
    obtain ⟨x, y, rfl, rfl, rfl⟩ := map_split e
    exact ⟨x, y, rfl, (h x).mpr ha, (star_map h y).mpr hb⟩
theorem tld_may (h : Tld f p p') : Tld f (.may p) (.may p') ∧ Tld f (.may p) (.row [.may p']) ∧ Tld f (.may p) (.any [p', .row []]) := by
  have h1 := h.depth
  have h2 := h.nodes
  have h3 := h.cnt
  refine ⟨⟨told_may h.says, ?_, ?_, ?_⟩, ⟨tld_row_of (told_may h.says), ?_, ?_, ?_⟩, ⟨fun ws => ?_, ?_, ?_, ?_⟩⟩
  · rw [Pat.depth, Pat.depth]; omega
  · rw [Pat.nodes, Pat.nodes]; omega
  · rw [cnt_may, cnt_may]; exact h3
  · rw [Pat.depth, depths, depths, Pat.depth, Pat.depth]; omega
  · rw [Pat.nodes, nodess, nodess, Pat.nodes, Pat.nodes]; omega
  · rw [cnt_row, cnts_cons, cnts_nil, cnt_may, cnt_may]; exact h3
  · rw [acc_any, accA_cons, accA_cons, accA_nil, acc_row, accR_nil, acc_may, h.says ws]
    constructor
    · rintro (q | q | q)
      · exact .inr q
      · exact .inl (by simpa using q)
      · exact q.elim
    · rintro (q | q)
      · exact .inr (.inl (by simpa using q))
      · exact .inl q
  · rw [Pat.depth, depths, depths, depths, Pat.depth, Pat.depth, depths]; omega
  · rw [Pat.nodes, nodess, nodess, nodess, Pat.nodes, Pat.nodes, nodess]; omega
  · rw [cnt_any, cnts_cons, cnts_cons, cnts_nil, cnt_row, cnts_nil, cnt_may]; omega
theorem tld_many (h : Tld f p p') : Tld f (.many p) (.many p') ∧ Tld f (.many p) (.row [.many p']) ∧ Tld f (.many p) (.may (.some p')) := by
  have h1 := h.depth
  have h2 := h.nodes
  have h3 := h.cnt
  refine ⟨⟨told_many h.says, ?_, ?_, ?_⟩, ⟨tld_row_of (told_many h.says), ?_, ?_, ?_⟩, ⟨fun ws => ?_, ?_, ?_, ?_⟩⟩
  · rw [Pat.depth, Pat.depth]; omega
  · rw [Pat.nodes, Pat.nodes]; omega
  · rw [cnt_many, cnt_many]; exact h3
  · rw [Pat.depth, depths, depths, Pat.depth, Pat.depth]; omega
  · rw [Pat.nodes, nodess, nodess, Pat.nodes, Pat.nodes]; omega
  · rw [cnt_row, cnts_cons, cnts_nil, cnt_many, cnt_many]; exact h3
  · rw [← (told_many h.says) ws, acc_may, acc_some, acc_many]
    constructor
    · rintro (q | ⟨a, b, rfl, ha, hb⟩)
      · subst q; exact .nil
      · exact .cons ha hb
    · intro q
      cases q with
      | nil => exact .inl rfl
      | cons ha hb => exact .inr ⟨_, _, rfl, ha, hb⟩
  · rw [Pat.depth, Pat.depth, Pat.depth]; omega
  · rw [Pat.nodes, Pat.nodes, Pat.nodes]; omega
  · rw [cnt_may, cnt_some, cnt_many]; exact h3
theorem tld_some (h : Tld f p p') : Tld f (.some p) (.some p') ∧ Tld f (.some p) (.row [.some p']) := by
  have h1 := h.depth
  have h2 := h.nodes
  have h3 := h.cnt
  refine ⟨⟨told_some h.says, ?_, ?_, ?_⟩, ⟨tld_row_of (told_some h.says), ?_, ?_, ?_⟩⟩
  · rw [Pat.depth, Pat.depth]; omega
  · rw [Pat.nodes, Pat.nodes]; omega
  · rw [cnt_some, cnt_some]; exact h3
  · rw [Pat.depth, depths, depths, Pat.depth, Pat.depth]; omega
  · rw [Pat.nodes, nodess, nodess, Pat.nodes, Pat.nodes]; omega
  · rw [cnt_row, cnts_cons, cnts_nil, cnt_some, cnt_some]; exact h3
end
/-! ### schemas -/
/-- Q tells S anew, by f; a rule more may stand at the name e -/
structure Anew (f : Str → Str) (e : Str) (S Q : Schema) : Prop where
  back : ∀ r' ∈ Q.rules, (∃ r ∈ S.rules, r'.name = f r.name ∧ r'.tag = r.tag ∧ r'.mark = r.mark ∧ Tld f r.pat r'.pat) ∨ r'.name = e
  forth : ∀ r ∈ S.rules, ∃ r' ∈ Q.rules, r'.name = f r.name ∧ r'.tag = r.tag ∧ r'.mark = r.mark ∧ Tld f r.pat r'.pat
  inj : ∀ r ∈ S.rules, ∀ x, f x = f r.name → x = r.name
  more : ∀ x, f x ≠ e
  roots : ∀ y, y ∈ Q.roots ↔ ∃ x ∈ S.roots, f x = y
theorem fits_same {r r' : Rule} (h1 : r'.tag = r.tag) (h2 : r'.mark = r.mark) (l : Str) : fits r' l = fits r l := by
  unfold fits; rw [h1, h2]
section
variable {f : Str → Str} {e : Str} {S Q : Schema}
mutual
theorem Anew.nm (h : Anew f e S Q) : ∀ t : Tr, ren f (NmW Q t) = NmW S t
  | .node g w ks => by
    have ih := Anew.nms h ks
    funext x
    refine propext ?_
    show NmW Q (.node g w ks) (f x) ↔ _
    rw [nmW_iff, nmW_iff]
    constructor
    · rintro ⟨r', h1, h2, h3, h4⟩
      rcases h.back r' h1 with ⟨r, g1, g2, g3, g4, g5⟩ | g
      · have : x = r.name := h.inj r g1 x (h2.symm.trans g2)
        refine ⟨r, g1, this.symm, by rw [← fits_same g3 g4]; exact h3, ?_⟩
        rw [← ih]
        have := (g5.says _).mp h4
        rwa [List.map_map] at this
      · exact absurd (h2.symm.trans g) (h.more x)
    · rintro ⟨r, h1, rfl, h3, h4⟩
      obtain ⟨r', g1, g2, g3, g4, g5⟩ := h.forth r h1
      refine ⟨r', g1, g2, by rw [fits_same g3 g4]; exact h3, ?_⟩
      refine (g5.says _).mpr ?_
      rw [List.map_map]
      rw [← ih] at h4
      exact h4
theorem Anew.nms (h : Anew f e S Q) : ∀ ts : List Tr, ts.map (ren f ∘ NmW Q) = ts.map (NmW S)
  | [] => rfl
  | t :: ts => by
    rw [List.map_cons, List.map_cons, Anew.nms h ts]
    exact congrArg (· :: _) (Anew.nm h t)
end
theorem Anew.admits (h : Anew f e S Q) (w1 : WfS S) (w2 : WfS Q) (t : Tr) : Admits Q t ↔ Admits S t := by
  rw [admits_iff w1, admits_iff w2]
  constructor
  · rintro ⟨y, hy, q⟩
    obtain ⟨x, hx, rfl⟩ := (h.roots y).mp hy
    exact ⟨x, hx, by rw [← h.nm t]; exact q⟩
  · rintro ⟨x, hx, q⟩
    refine ⟨f x, (h.roots _).mpr ⟨x, hx, rfl⟩, ?_⟩
    rw [← h.nm t] at q
    exact q
end
end DL

set_option Elab.async false
set_option linter.all false
set_option maxRecDepth 100000
set_option autoImplicit false
set_option maxHeartbeats 4000000
/-! E36: the law's draws, heads, patterns. -/
namespace DL
open PySem PySem.Spec L2
def scD (ns : List Int) : Dt := .frz (ns.map Dt.int)
/-- the place where the script is read -/
def atD (k : Nat) : Dt := .lst [nD k]
theorem mod_nat (x : Int) {m : Nat} (h : 0 < m) : ∃ z : Nat, z < m ∧ x % (m : Int) = (z : Int) :=
  ⟨(x % (m : Int)).toNat, by have := Int.emod_lt_of_pos x (show (0 : Int) < m by omega); have := Int.emod_nonneg x (show (m : Int) ≠ 0 by omega); omega, by have := Int.emod_nonneg x (show (m : Int) ≠ 0 by omega); omega⟩
section
variable {P : Program} {w : World} {K : PySem.W.Frag} {mg : Str → Option Value} {base : Heap}
def sDraw : FS := fun as R => ∃ (ns : List Int) (k m : Nat), as = [.val (scD ns), .val (nD k), .val (nD m)] ∧ ns.length ≤ 63 ∧ k < 2 ^ 50 ∧ 0 < m ∧ ∀ z : Nat, z < m → R (nD z) []
theorem d_draw (M : Names mg) (h : Has K mg "_law_draw" (top 62) ["_law_script", "_law_k", "_law_many"]) : DefOk P w K mg base "_law_draw" 1 sDraw := by
  refine def_D h ["_law_script", "_law_k", "_law_many", "_law_number"] ⟨rfl, rfl, rfl, by decide +kernel, rfl, by decide +kernel, by decide +kernel⟩ (fun as R ⟨_, _, _, e, _⟩ => by subst e; rfl) fun f cdv A outer s H E as R hr hu nd ⟨ns, k, m, e, h63, hk, hm, q⟩ => ?_
  subst e
  have hm' : (0 : Int) < (m : Int) := by omega
  have q' : ∀ x : Int, R (.int (x % (m : Int))) [] := fun x => by
    obtain ⟨z, h1, h2⟩ := mod_nat x hm
    rw [h2]; exact q z h1
  refine s_cons (t_ifB _ (jt_cmp (j_nm 1 rfl (v_val (j_blt "len" M.len (by decide +kernel) (a_cons (v_val (j_nm 0 rfl (a_nil ⟨_, rfl, kd_lenF ⟨_, rfl, cd_lt ⟨rfl, rfl⟩⟩⟩)))))))) (fun h => ?_) (fun h => ?_))
  · have h : k < ns.length := by simpa using h
    have e1 : L2.atI (ns.map Dt.int) (k : Int) = some (.int ns[k]) := atI_map (List.getElem?_eq_getElem h)
    exact s_cons (t_ret (j_bin (j_ix (v_val (j_nm 0 rfl (j_nm 1 rfl ⟨_, rfl, xd_frz e1 (j_nm 2 rfl (bd_mod hm' ⟨_, rfl, q' _⟩))⟩))))))
  refine s_nil ?_
  refine s_cons (t_asg 3 (j_bin (j_bin (j_nm 1 rfl (j_nm 1 rfl (bd_mul (.inl (by omega)) (j_int (bd_add ?_))))))) nd)
  refine s_cons (t_ifJ (fun ρ => ∃ x : Int, ρ = [.val (scD ns), .val (nD k), .val (nD m), .val (.int x)]) _ (jt_cmp (j_blt "len" M.len (by decide +kernel) (a_cons (v_val (j_nm 0 rfl (a_nil ⟨_, rfl, kd_lenF (v_val (j_int ⟨_, rfl, cd_gt ⟨rfl, rfl⟩⟩))⟩)))))) (fun h => ?_) (fun h => ?_) fun ρ ⟨x, e⟩ => ?_)
  · have h : 0 < ns.length := by simpa using h
    obtain ⟨z, hz, ez⟩ := mod_nat (k : Int) h
    have e1 : L2.atI (ns.map Dt.int) ((k : Int) % (((ns.map Dt.int).length : Nat) : Int)) = some (.int ns[z]) := by
      rw [List.length_map, ez]; exact atI_map (List.getElem?_eq_getElem hz)
    refine s_cons (t_asg 3 (j_bin (j_nm 3 rfl (j_bin (j_ix (v_val (j_nm 0 rfl (j_bin (j_nm 1 rfl (j_blt "len" M.len (by decide +kernel) (a_cons (v_val (j_nm 0 rfl (a_nil ⟨_, rfl, kd_lenF (bd_mod (by rw [List.length_map]; omega) ⟨_, rfl, xd_frz e1 (j_int (bd_mod (by decide) (bd_add ?_)))⟩)⟩))))))))))))) nd)
    exact s_nil ⟨_, rfl⟩
  · exact s_nil ⟨_, rfl⟩
  subst e
  exact s_cons (t_ret (j_bin (j_bin (j_bin (j_nm 3 rfl (j_int (bd_mul (.inr (by decide)) (j_int (bd_mod (by decide) (j_nm 2 rfl (bd_mod hm' ⟨_, rfl, q' _⟩)))))))))))
def sNextL : FS := fun as R => ∃ (ns : List Int) (k m : Nat), as = [.val (scD ns), .own (atD k), .val (nD m)] ∧ ns.length ≤ 63 ∧ k < 2 ^ 50 ∧ 0 < m ∧ ∀ z : Nat, z < m → R (nD z) [atD (k + 1)]
theorem d_next (M : Names mg) (D1 : DefOk P w K mg base "_law_draw" 1 sDraw) (h : Has K mg "_law_next" (top 63) ["_law_script", "_law_at", "_law_many"]) : DefOk P w K mg base "_law_next" 2 sNextL := by
  refine def_D h ["_law_script", "_law_at", "_law_many"] ⟨rfl, rfl, rfl, by decide +kernel, rfl, by decide +kernel, by decide +kernel⟩ (fun as R ⟨_, _, _, e, _⟩ => by subst e; rfl) fun f cdv A outer s H E as R hr hu nd ⟨ns, k, m, e, h63, hk, hm, q⟩ => ?_
  subst e
  have e1 : L2.atI [nD k] (0 : Int) = some (nD k) := rfl
  have e2 : (k : Int) + 1 = ((k + 1 : Nat) : Int) := by omega
  refine s_cons (t_sub 1 (j_bin (j_ix (v_own 1 rfl (j_int ⟨_, rfl, xd_lst e1 (j_int (bd_add ⟨_, _, rfl, (j_int ⟨_, _, rfl, wd_lst (j := 0) rfl ?_⟩)⟩))⟩)))))
  rw [e2]
  have e3 : L2.atI ([nD k].set 0 (.int ((k + 1 : Nat) : Int))) (0 : Int) = some (nD (k + 1)) := rfl
  have e4 : ((k + 1 : Nat) : Int) - 1 = (k : Int) := by omega
  refine s_cons (t_ret (j_call D1 (hr.mono (by decide)) (a_cons (v_val (j_nm 0 rfl (a_cons (v_val (j_bin (j_ix (v_own 1 rfl (j_int ⟨_, rfl, xd_lst e3 (j_int (bd_sub (a_cons (v_val (j_nm 2 rfl (a_nil ⟨_, rfl, nd0, ?_⟩))))))⟩)))))))))))
  rw [e4]
  exact ⟨ns, k, m, rfl, h63, by omega, hm, fun z hz => ⟨_, rfl, q z hz⟩⟩
/-! ### heads -/
theorem mulOk_small (c : Nat) {n : Int} (h0 : 0 ≤ n) (h8 : n ≤ 8) : MulOk ⟨#[c]⟩ n := by
  have : n = 0 ∨ n = 1 ∨ n = 2 ∨ n = 3 ∨ n = 4 ∨ n = 5 ∨ n = 6 ∨ n = 7 ∨ n = 8 := by omega
  have e : (⟨#[c]⟩ : Str).length = 1 := rfl
  unfold MulOk
  rw [e]
  rcases this with rfl | rfl | rfl | rfl | rfl | rfl | rfl | rfl | rfl <;> exact ⟨by decide, by decide, by decide⟩
/-- the j-th head -/
def hdS (c : Nat) (L : List Nat) (s p : Int) (z j : Nat) : Str := Txt.mul ⟨#[c]⟩ p ++ ⟨#[L.getD ((z / 64 + 5 * j) % 26) 0]⟩ ++ Txt.mul ⟨#[c]⟩ (s - p - 1)
theorem hdS_list (c : Nat) (L : List Nat) (s p : Int) (z j : Nat) : (hdS c L s p z j).cps.toList = List.replicate p.toNat c ++ [L.getD ((z / 64 + 5 * j) % 26) 0] ++ List.replicate (s - p - 1).toNat c := by
  unfold hdS
  rw [Str.cps_append, Str.cps_append, Array.toList_append, Array.toList_append, PyProof.Rows.mul_one_list, PyProof.Rows.mul_one_list]
theorem len_list (z : Str) : z.length = z.cps.toList.length := by rw [Array.length_toList]; rfl
theorem hdS_len {c : Nat} {L : List Nat} {s p : Int} {z j : Nat} (h0 : 0 ≤ p) (h1 : p < s) : (hdS c L s p z j).length = s.toNat := by
  rw [len_list, hdS_list]
  simp
  omega
theorem hdS_inj {c : Nat} {L : List Nat} {s p : Int} {z i j : Nat} (hL : L.length = 26) (nd : L.Nodup) (hi : i < 5) (hj : j < 5) (h : hdS c L s p z i = hdS c L s p z j) : i = j := by
  have e := congrArg (fun t : Str => t.cps.toList) h
  simp only [hdS_list] at e
  rw [List.append_assoc, List.append_assoc] at e
  have e := List.append_cancel_left e
  simp only [List.singleton_append, List.cons.injEq, and_true] at e
  have l1 : (z / 64 + 5 * i) % 26 < L.length := by omega
  have l2 : (z / 64 + 5 * j) % 26 < L.length := by omega
  rw [List.getD_eq_getElem?_getD, List.getD_eq_getElem?_getD, List.getElem?_eq_getElem l1, List.getElem?_eq_getElem l2] at e
  have e : L[(z / 64 + 5 * i) % 26] = L[(z / 64 + 5 * j) % 26] := e
  have := (List.getElem_inj nd).mp e
  omega
theorem hdS_mem {c : Nat} {L : List Nat} {s p : Int} {z j : Nat} (hL : L.length = 26) {x : Nat} (h : x ∈ (hdS c L s p z j).cps.toList) : x = c ∨ x ∈ L := by
  rw [hdS_list] at h
  rcases List.mem_append.mp h with h | h
  · rcases List.mem_append.mp h with h | h
    · exact .inl (List.mem_replicate.mp h).2
    · have l1 : (z / 64 + 5 * j) % 26 < L.length := by omega
      rw [List.getD_eq_getElem?_getD, List.getElem?_eq_getElem l1] at h
      have h : x = L[(z / 64 + 5 * j) % 26] := by simpa using h
      rw [h]
      exact .inr (List.getElem_mem l1)
  · exact .inl (List.mem_replicate.mp h).2
/-- heads: distinct, of one to eight signs -/
structure Heads (c : Nat) (L : List Nat) (hs : List Str) : Prop where
  nd : hs.Nodup
  len : ∀ h ∈ hs, 1 ≤ h.length ∧ h.length ≤ 8
  mem : ∀ h ∈ hs, ∀ x ∈ h.cps.toList, x = c ∨ x ∈ L
def sHeads : FS := fun as R => ∃ (z c : Nat) (b lt : Str) (m : Nat), as = [.val (nD z), .val (.str b), .val (.str lt), .val (nD m)] ∧ b = ⟨#[c]⟩ ∧ z < 2 ^ 50 ∧ lt.cps.toList.length = 26 ∧ lt.cps.toList.Nodup ∧ m ≤ 5 ∧
  ∀ hs : List Str, hs.length = m → Heads c lt.cps.toList hs → R (.lst (hs.map .str)) []
theorem d_heads (M : Names mg) (h : Has K mg "_law_heads" (top 64) ["_law_number", "_law_base", "_law_letters", "_law_many"]) : DefOk P w K mg base "_law_heads" 1 sHeads := by
  refine def_D h ["_law_number", "_law_base", "_law_letters", "_law_many", "_law_size", "_law_place", "_law_heads_here", "_law_j", "_law_sign"] ⟨rfl, rfl, rfl, by decide +kernel, rfl, by decide +kernel, by decide +kernel⟩ (fun as R ⟨_, _, _, _, _, e, _⟩ => by subst e; rfl) fun f cdv A outer s H E as R hr hu nd ⟨z, c, b, lt, m, e, eb, hz, h26, hnd, hm, q⟩ => ?_
  subst e
  subst eb
  have hsz := szl
  refine s_cons (t_asg 4 (j_bin (j_int (j_bin (j_nm 0 rfl (j_int (bd_mod (by decide) (bd_add ?_))))))) nd)
  have hs1 : 0 < 1 + (z : Int) % 8 := by omega
  have hs2 : 1 + (z : Int) % 8 ≤ 8 := by omega
  refine s_cons (t_asg 5 (j_bin (j_bin (j_bin (j_nm 0 rfl (j_int (bd_fdiv ⟨by decide, by decide⟩ (j_int (bd_mod (by decide) (j_nm 4 rfl (bd_mod hs1 ?_)))))))))) nd)
  have hp1 := Int.emod_nonneg ((z : Int) / 8 % 8) (show (1 + (z : Int) % 8) ≠ 0 by omega)
  have hp2 := Int.emod_lt_of_pos ((z : Int) / 8 % 8) hs1
  generalize (z : Int) / 8 % 8 % (1 + (z : Int) % 8) = p at hp1 hp2 ⊢
  generalize 1 + (z : Int) % 8 = sz at hs1 hs2 hp2 ⊢
  refine s_cons (t_asgN 6 (n_lst (l_nil ?_)) nd)
  refine s_cons (t_for (i_rng1 M.range (j_nm 3 rfl ⟨_, rfl, ⟨by omega, by omega⟩, ⟨fun i ρ => ∃ d7 d8 : Slot, ρ = [.val (nD z), .val (.str ⟨#[c]⟩), .val (.str lt), .val (nD m), .val (.int sz), .val (.int p), .own none (.lst (((List.range i).map (hdS c lt.cps.toList sz p z)).map .str)), d7, d8], ⟨_, _, rfl⟩, fun i d ρ hd ⟨_, _, e⟩ => ?_, fun ρ ⟨_, _, e⟩ => ?_⟩⟩)))
  · subst e
    obtain ⟨hi, rfl⟩ := rget hd
    have hi : i < m := by omega
    have hp : (0 : Int) + (i : Int) * 1 = (i : Int) := by omega
    rw [hp]
    have hl : (z / 64 + 5 * i) % 26 < lt.cps.toList.length := by omega
    have e1 : L2.atI lt.cps.toList (((z : Int) / 64 + 5 * (i : Int)) % 26) = some (lt.cps.toList.getD ((z / 64 + 5 * i) % 26) 0) := by
      have : ((z : Int) / 64 + 5 * (i : Int)) % 26 = (((z / 64 + 5 * i) % 26 : Nat) : Int) := by omega
      rw [this]
      refine atI_nat ?_
      rw [List.getD_eq_getElem?_getD, List.getElem?_eq_getElem hl]; rfl
    have e2 : lt.length ≤ sizeLine := by rw [len_list]; omega
    refine g_nm 7 ?_ nd
    refine s_cons (t_asg 8 (j_ix (v_val (j_nm 2 rfl (j_bin (j_bin (j_bin (j_nm 0 rfl (j_int (bd_fdiv ⟨by decide, by decide⟩ (j_bin (j_int (j_nm 7 rfl (bd_mul (.inl (by decide)) (bd_add (j_int (bd_mod (by decide) ⟨_, rfl, xd_str e2 e1 ?_⟩)))))))))))))))) nd)
    have l1 : (Txt.mul ⟨#[c]⟩ p).length = p.toNat := by rw [len_list, PyProof.Rows.mul_one_list, List.length_replicate]
    have l2 : (Txt.mul ⟨#[c]⟩ (sz - p - 1)).length = (sz - p - 1).toNat := by rw [len_list, PyProof.Rows.mul_one_list, List.length_replicate]
    have l3 : ∀ x : Nat, (⟨#[x]⟩ : Str).length = 1 := fun _ => rfl
    refine s_cons (t_append 6 rfl ⟨_, rfl⟩ (j_bin (j_bin (j_bin (j_nm 1 rfl (j_nm 5 rfl (bd_mulS (mulOk_small c hp1 (by omega)) (j_nm 8 rfl (bd_addS (by rw [l1, l3]; omega) (j_bin (j_nm 1 rfl (j_bin (j_bin (j_nm 4 rfl (j_nm 5 rfl (bd_sub (j_int (bd_sub (bd_mulS (mulOk_small c (by omega) (by omega)) (bd_addS (by rw [Str.length_append, l1, l2, l3]; omega) ⟨_, _, rfl, ?_, ?_⟩))))))))))))))))))))
    · rw [List.length_map, List.length_map, List.length_range]; omega
    refine s_nil ⟨.val (nD i), .val (.str ⟨#[lt.cps.toList.getD ((z / 64 + 5 * i) % 26) 0]⟩), ?_⟩
    rw [List.range_succ, List.map_append, List.map_append]
    rfl
  · subst e
    rw [rng_len]
    have em : ((m : Nat) : Int).toNat = m := by omega
    rw [em]
    refine s_freeze 6 rfl (s_cons (t_ret (j_nm 6 rfl ⟨_, rfl, ?_⟩)))
    refine q _ (by rw [List.length_map, List.length_range]) ⟨?_, fun x hx => ?_, fun x hx y hy => ?_⟩
    · refine List.pairwise_map.mpr (List.Pairwise.imp_of_mem (fun {i j} hi hj hne e => hne ?_) List.nodup_range)
      have := List.mem_range.mp hi
      have := List.mem_range.mp hj
      exact hdS_inj h26 hnd (by omega) (by omega) e
    · obtain ⟨j, _, rfl⟩ := List.mem_map.mp hx
      rw [hdS_len hp1 hp2]
      omega
    · obtain ⟨j, _, rfl⟩ := List.mem_map.mp hx
      exact hdS_mem h26 hy
end
end DL

set_option Elab.async false
set_option linter.all false
set_option maxRecDepth 100000
set_option autoImplicit false
set_option maxHeartbeats 4000000
/-! E37: the law's patterns. -/
namespace DL
open PySem PySem.Spec L2
section
variable {X : Cx} {ρ : Env} {pos : Pos}
/-- a + b of two lists, a new list of ours -/
theorem n_addL {a b : Expr} {R : DP} (h : JE X a ρ fun d1 ρ1 => JE X b ρ1 fun d2 ρ2 => ∃ ds es, d1 = .lst ds ∧ d2 = .lst es ∧ ds.length + es.length ≤ sizeLine ∧ R (.lst (ds ++ es)) ρ2) : JN X (.BinOp a .Add b pos) ρ R := fun C F σ H Q r k => by
  refine re_of (pe_op op_any re_pe re_pe) ?_
  refine h C F σ H _ r fun d1 ρ1 v1 F1 H1 h1 e1 r1 i1 => ?_
  refine h1 C F1 σ H1 _ r1 fun d2 ρ2 v2 F2 H2 ⟨ds, es, ed, ee, hz, q⟩ e2 r2 i2 => ?_
  subst ed ee
  cases (i1.mono e2) with
  | lst a1 b1 =>
    cases i2 with
    | lst a2 b2 =>
      refine ⟨_, op_cat, _, _, _, _, rfl, rfl, r2.part _ _ a1, r2.part _ _ a2, by rw [← b1.length, ← b2.length]; exact hz, fun p hp => ?_⟩
      exact k _ ρ2 _ F2 _ q (e1.trans e2) (r2.alone _ hp) (fresh_F r2.part hp) (r2.fresh0 hp) (r2.freshT hp) ⟨_, upd_same, b1.append b2⟩ (r2.notHeld hp)
end
/-- q is p, or p laid round -/
structure Wr (p q : Pat) : Prop where
  depth : q.depth ≤ p.depth + 1
  nodes : q.nodes ≤ p.nodes + 2
  names : namesAt q = namesAt p
section
variable (p : Pat)
theorem wr_id : Wr p p := ⟨by omega, by omega, rfl⟩
theorem wr_may : Wr p (.may p) := ⟨by rw [Pat.depth]; omega, by rw [Pat.nodes]; omega, by rw [namesAt]⟩
theorem wr_many : Wr p (.many p) := ⟨by rw [Pat.depth]; omega, by rw [Pat.nodes]; omega, by rw [namesAt]⟩
theorem wr_some : Wr p (.some p) := ⟨by rw [Pat.depth]; omega, by rw [Pat.nodes]; omega, by rw [namesAt]⟩
theorem wr_any1 : Wr p (.any [p, .row []]) := ⟨by have := depth_pos p; rw [Pat.depth, depths, depths, depths, Pat.depth, depths]; omega, by rw [Pat.nodes, nodess, nodess, nodess, Pat.nodes, nodess]; omega, by rw [namesAt, namesAts, namesAts, namesAts, namesAt, namesAts]; simp⟩
theorem wr_row1 : Wr p (.row [p]) := ⟨by have := depth_pos p; rw [Pat.depth, depths, depths]; omega, by rw [Pat.nodes, nodess, nodess]; omega, by rw [namesAt, namesAts, namesAts]; simp⟩
theorem wr_any2 : Wr p (.any [.any [], p]) := ⟨by have := depth_pos p; rw [Pat.depth, depths, depths, depths, Pat.depth, depths]; omega, by rw [Pat.nodes, nodess, nodess, nodess, Pat.nodes, nodess]; omega, by rw [namesAt, namesAts, namesAts, namesAts, namesAt, namesAts]; simp⟩
theorem wr_row2 : Wr p (.row [p, .any []]) := ⟨by have := depth_pos p; rw [Pat.depth, depths, depths, depths, Pat.depth, depths]; omega, by rw [Pat.nodes, nodess, nodess, nodess, Pat.nodes, nodess]; omega, by rw [namesAt, namesAts, namesAts, namesAts, namesAt, namesAts]; simp⟩
end
section
variable {P : Program} {w : World} {K : PySem.W.Frag} {mg : Str → Option Value} {base : Heap}
def sWrap : FS := fun as R => ∃ (ns : List Int) (k : Nat) (p : Pat), as = [.val (scD ns), .own (atD k), .val (encP p)] ∧ ns.length ≤ 63 ∧ k < 2 ^ 50 ∧ ∀ p', Wr p p' → R (encP p') [atD (k + 1)]
theorem d_wrapped (M : Names mg) (D1 : DefOk P w K mg base "_law_next" 2 sNextL) (h : Has K mg "_law_wrapped" (top 65) ["_law_script", "_law_at", "_law_pattern_here"]) : DefOk P w K mg base "_law_wrapped" 3 sWrap := by
  refine def_D h ["_law_script", "_law_at", "_law_pattern_here", "_law_way"] ⟨rfl, rfl, rfl, by decide +kernel, rfl, by decide +kernel, by decide +kernel⟩ (fun as R ⟨_, _, _, e, _⟩ => by subst e; rfl) fun f cdv A outer s H E as R hr hu nd ⟨ns, k, p, e, h63, hk, q⟩ => ?_
  subst e
  refine s_cons (t_asg 3 (j_call D1 (hr.mono (by decide)) (a_cons (v_val (j_nm 0 rfl (a_cons (v_own 1 rfl (a_cons (v_val (j_int (a_nil ⟨_, rfl, nd1, ⟨ns, k, 24, rfl, h63, hk, by decide, fun z hz => ?_⟩⟩)))))))))) nd)
  refine s_norm [.val (scD ns), .own (some 0) (atD (k + 1)), .val (encP p), .val (nD z)] rfl ?_
  refine s_cons (t_ifB _ (jt_cmp (j_nm 3 rfl (v_val (j_int ⟨_, rfl, cd_lt ⟨rfl, rfl⟩⟩)))) (fun h => ?_) (fun h => ?_))
  · have e3 : z % 3 = 0 ∨ z % 3 = 1 ∨ z % 3 = 2 := by omega
    have ez : (z : Int) % 3 = ((z % 3 : Nat) : Int) := by omega
    have key : ∃ (x : Str) (p' : Pat), L2.atI [Dt.str "may", .str "many", .str "some"] ((z : Int) % 3) = some (.str x) ∧ encP p' = .tup [.str x, encP p] ∧ Wr p p' := by
      rw [ez]
      rcases e3 with e | e | e <;> rw [e]
      · exact ⟨"may", .may p, rfl, rfl, wr_may p⟩
      · exact ⟨"many", .many p, rfl, rfl, wr_many p⟩
      · exact ⟨"some", .some p, rfl, rfl, wr_some p⟩
    obtain ⟨x, p', e1, e2, hw⟩ := key
    refine s_cons (t_ret (j_tup (l_cons (j_ix (v_val (j_lst (l_cons (j_str (l_cons (j_str (l_cons (j_str (l_nil (j_bin (j_nm 3 rfl (j_int (bd_mod (by decide) ⟨_, rfl, xd_lst e1 (l_cons (j_nm 2 rfl (l_nil ⟨_, rfl, ?_⟩)))⟩)))))))))))))))))
    rw [← e2]
    exact q p' hw
  refine s_nil ?_
  refine s_cons (t_ifB _ (jt_cmp (j_nm 3 rfl (v_val (j_int ⟨_, rfl, cd_eq ⟨rfl, rfl⟩⟩)))) (fun h => ?_) (fun h => ?_))
  · exact s_cons (t_ret (j_tup (l_cons (j_str (l_cons (j_tup (l_cons (j_nm 2 rfl (l_cons (j_tup (l_cons (j_str (l_cons (j_tup (l_nil (l_nil (l_nil (l_nil ⟨_, rfl, q _ (wr_any1 p)⟩))))))))))))))))))
  refine s_nil ?_
  refine s_cons (t_ifB _ (jt_cmp (j_nm 3 rfl (v_val (j_int ⟨_, rfl, cd_eq ⟨rfl, rfl⟩⟩)))) (fun h => ?_) (fun h => ?_))
  · exact s_cons (t_ret (j_tup (l_cons (j_str (l_cons (j_tup (l_cons (j_nm 2 rfl (l_nil (l_nil ⟨_, rfl, q _ (wr_row1 p)⟩))))))))))
  refine s_nil ?_
  refine s_cons (t_ifB _ (jt_cmp (j_nm 3 rfl (v_val (j_int ⟨_, rfl, cd_eq ⟨rfl, rfl⟩⟩)))) (fun h => ?_) (fun h => ?_))
  · exact s_cons (t_ret (j_tup (l_cons (j_str (l_cons (j_tup (l_cons (j_tup (l_cons (j_str (l_cons (j_tup (l_nil (l_nil (l_cons (j_nm 2 rfl (l_nil (l_nil ⟨_, rfl, q _ (wr_any2 p)⟩))))))))))))))))))
  refine s_nil ?_
  refine s_cons (t_ifB _ (jt_cmp (j_nm 3 rfl (v_val (j_int ⟨_, rfl, cd_eq ⟨rfl, rfl⟩⟩)))) (fun h => ?_) (fun h => ?_))
  · exact s_cons (t_ret (j_tup (l_cons (j_str (l_cons (j_tup (l_cons (j_nm 2 rfl (l_cons (j_tup (l_cons (j_str (l_cons (j_tup (l_nil (l_nil (l_nil (l_nil ⟨_, rfl, q _ (wr_row2 p)⟩))))))))))))))))))
  refine s_nil ?_
  exact s_cons (t_ret (j_nm 2 rfl ⟨_, rfl, q _ (wr_id p)⟩))
/-- a pattern of j places, by these names -/
structure PatJ (names : List Str) (j : Nat) (p : Pat) : Prop where
  depth : p.depth ≤ 2 * j + 1
  nodes : p.nodes ≤ 6 * j + 1
  cnt : DL.cnt p = j
  mem : ∀ x ∈ namesAt p, x ∈ names
def sPattern : FS := fun as R => ∃ (ns : List Int) (k : Nat) (names : List Str) (m : Nat), as = [.val (scD ns), .own (atD k), .val (.lst (names.map .str)), .val (nD m)] ∧ ns.length ≤ 63 ∧ k < 2 ^ 49 ∧ 4 ≤ names.length ∧ m ≤ 3 ∧
  ∀ p k', PatJ (names.take 4) m p → k' ≤ k + 4 * m → R (encP p) [atD k']
theorem cnt_names {p q : Pat} (h : namesAt q = namesAt p) : cnt q = cnt p := by unfold cnt; rw [h]
theorem d_pattern (M : Names mg) (D1 : DefOk P w K mg base "_law_next" 2 sNextL) (D2 : DefOk P w K mg base "_law_wrapped" 3 sWrap) (h : Has K mg "_law_pattern" (top 66) ["_law_script", "_law_at", "_law_names", "_law_places"]) : DefOk P w K mg base "_law_pattern" 4 sPattern := by
  refine def_D h ["_law_script", "_law_at", "_law_names", "_law_places", "_law_whole", "_law_j", "_law_piece", "_law_way", "_law_pair"] ⟨rfl, rfl, rfl, by decide +kernel, rfl, by decide +kernel, by decide +kernel⟩ (fun as R ⟨_, _, _, _, e, _⟩ => by subst e; rfl) fun f cdv A outer s H E as R hr hu nd ⟨ns, k, names, m, e, h63, hk, h4, hm, q⟩ => ?_
  subst e
  refine s_cons (t_asg 4 (j_tup (l_cons (j_str (l_cons (j_tup (l_nil (l_nil ?_))))))) nd)
  refine s_cons (t_for (i_rng1 M.range (j_nm 3 rfl ⟨_, rfl, ⟨by omega, by omega⟩, ⟨fun i ρ => ∃ (p : Pat) (k' : Nat) (d5 d6 d7 d8 : Slot), PatJ (names.take 4) i p ∧ (i = 0 → p = .row []) ∧ k' ≤ k + 4 * i ∧ ρ = [.val (scD ns), .own (some 0) (atD k'), .val (.lst (names.map .str)), .val (nD m), .val (encP p), d5, d6, d7, d8],
    ⟨.row [], k, _, _, _, _, ⟨by rw [Pat.depth, depths]; omega, by rw [Pat.nodes, nodess]; omega, by rw [cnt_row, cnts_nil], fun x hx => by rw [namesAt, namesAts] at hx; cases hx⟩, fun _ => rfl, by omega, rfl⟩, fun i d ρ hd ⟨p, k', _, _, _, _, pj, h0, hk', e⟩ => ?_, fun ρ ⟨p, k', _, _, _, _, pj, h0, hk', e⟩ => ?_⟩⟩)))
  · subst e
    obtain ⟨hi, rfl⟩ := rget hd
    have hi : i < m := by omega
    have hp : (0 : Int) + (i : Int) * 1 = (i : Int) := by omega
    rw [hp]
    refine g_nm 5 ?_ nd
    refine s_cons (t_asg 6 (j_call D2 (hr.mono (by decide)) (a_cons (v_val (j_nm 0 rfl (a_cons (v_own 1 rfl (a_cons (v_val (j_tup (l_cons (j_str (l_cons (j_ix (v_val (j_nm 2 rfl (j_call D1 (hr.mono (by decide)) (a_cons (v_val (j_nm 0 rfl (a_cons (v_own 1 rfl (a_cons (v_val (j_int (a_nil ⟨_, rfl, nd1, ⟨ns, k', 4, rfl, h63, by omega, by decide, fun z hz => ?_⟩⟩))))))))))))))))))))))))) nd)
    have hzl : z < names.length := by omega
    have e1 : L2.atI (names.map Dt.str) (z : Int) = some (.str names[z]) := atI_map (List.getElem?_eq_getElem hzl)
    have hmem : names[z] ∈ names.take 4 := List.mem_take_iff_getElem.mpr ⟨z, by omega, rfl⟩
    generalize names[z] = x at e1 hmem
    refine ⟨_, rfl, xd_lst e1 (l_nil (a_nil ⟨_, rfl, nd1, ⟨ns, k' + 1, .one x, rfl, h63, by omega, fun pc hw => ?_⟩⟩))⟩
    have d1 := hw.depth
    have n1 := hw.nodes
    have c1 := cnt_names hw.names
    rw [cnt_one] at c1
    rw [Pat.depth] at d1
    rw [Pat.nodes] at n1
    have m1 : ∀ y ∈ namesAt pc, y ∈ names.take 4 := fun y hy => by
      rw [hw.names, namesAt] at hy
      have : y = x := by simpa using hy
      rw [this]; exact hmem
    refine s_norm [.val (scD ns), .own (some 0) (atD (k' + 1 + 1)), .val (.lst (names.map .str)), .val (nD m), .val (encP p), .val (nD i), .val (encP pc), _, _] rfl ?_
    refine s_cons (t_ifJ (fun ρ => ∃ (p : Pat) (k'' : Nat) (d5 d6 d7 d8 : Slot), PatJ (names.take 4) (i + 1) p ∧ k'' ≤ k' + 4 ∧ ρ = [.val (scD ns), .own (some 0) (atD k''), .val (.lst (names.map .str)), .val (nD m), .val (encP p), d5, d6, d7, d8]) _ (jt_cmp (j_nm 5 rfl (v_val (j_int ⟨_, rfl, cd_eq ⟨rfl, rfl⟩⟩)))) (fun h => ?_) (fun h => ?_) fun ρ ⟨p2, k2, _, _, _, _, pj2, hk2, e⟩ => ?_)
    · have h : i = 0 := by simpa using h
      subst h
      refine s_cons (t_asg 4 (j_nm 6 rfl ?_) nd)
      exact s_nil ⟨pc, k' + 1 + 1, _, _, _, _, ⟨by omega, by omega, by omega, m1⟩, by omega, rfl⟩
    · have h : i ≠ 0 := by simpa using h
      refine s_cons (t_asg 7 (j_call D1 (hr.mono (by decide)) (a_cons (v_val (j_nm 0 rfl (a_cons (v_own 1 rfl (a_cons (v_val (j_int (a_nil ⟨_, rfl, nd1, ⟨ns, k' + 1 + 1, 4, rfl, h63, by omega, by decide, fun z hz => ?_⟩⟩)))))))))) nd)
      have key : ∃ a b : Pat, ((a = p ∧ b = pc) ∨ (a = pc ∧ b = p)) ∧ L2.atI [Dt.tup [encP p, encP pc], .tup [encP pc, encP p]] ((z : Int) % 2) = some (.tup [encP a, encP b]) := by
        have : z % 2 = 0 ∨ z % 2 = 1 := by omega
        have ez : (z : Int) % 2 = ((z % 2 : Nat) : Int) := by omega
        rw [ez]
        rcases this with e | e <;> rw [e]
        · exact ⟨p, pc, .inl ⟨rfl, rfl⟩, rfl⟩
        · exact ⟨pc, p, .inr ⟨rfl, rfl⟩, rfl⟩
      obtain ⟨a, b, hab, e2⟩ := key
      refine s_cons (t_asg 8 (j_ix (v_val (j_lst (l_cons (j_tup (l_cons (j_nm 4 rfl (l_cons (j_nm 6 rfl (l_nil (l_cons (j_tup (l_cons (j_nm 6 rfl (l_cons (j_nm 4 rfl (l_nil (l_nil (j_bin (j_nm 7 rfl (j_int (bd_mod (by decide) ⟨_, rfl, xd_lst e2 ?_⟩)))))))))))))))))))))) nd)
      have key2 : ∃ (x : Str) (p' : Pat), L2.atI [Dt.str "row", .str "any"] ((z : Int) / 2) = some (.str x) ∧ encP p' = .tup [.str x, .tup [encP a, encP b]] ∧ p'.depth = max a.depth b.depth + 1 ∧ p'.nodes = a.nodes + b.nodes + 1 ∧ namesAt p' = namesAt a ++ namesAt b := by
        have : z / 2 = 0 ∨ z / 2 = 1 := by omega
        have ez : (z : Int) / 2 = ((z / 2 : Nat) : Int) := by omega
        rw [ez]
        rcases this with e | e <;> rw [e]
        · exact ⟨"row", .row [a, b], rfl, rfl, by rw [Pat.depth, depths, depths, depths]; omega, by rw [Pat.nodes, nodess, nodess, nodess]; omega, by rw [namesAt, namesAts, namesAts, namesAts]; simp⟩
        · exact ⟨"any", .any [a, b], rfl, rfl, by rw [Pat.depth, depths, depths, depths]; omega, by rw [Pat.nodes, nodess, nodess, nodess]; omega, by rw [namesAt, namesAts, namesAts, namesAts]; simp⟩
      obtain ⟨x2, p', e3, e4, dp, np, mp⟩ := key2
      refine s_cons (t_asg 4 (j_call D2 (hr.mono (by decide)) (a_cons (v_val (j_nm 0 rfl (a_cons (v_own 1 rfl (a_cons (v_val (j_tup (l_cons (j_ix (v_val (j_lst (l_cons (j_str (l_cons (j_str (l_nil (j_bin (j_nm 7 rfl (j_int (bd_fdiv ⟨by decide, by decide⟩ ⟨_, rfl, xd_lst e3 (l_cons (j_nm 8 rfl (l_nil (a_nil ⟨_, rfl, nd1, ⟨ns, k' + 1 + 1 + 1, p', by rw [e4], h63, by omega, fun p2 hw2 => ?_⟩⟩))))⟩)))))))))))))))))))))) nd)
      have d2 := hw2.depth
      have n2 := hw2.nodes
      have dd := pj.depth
      have nn := pj.nodes
      have cc := pj.cnt
      have c2 : cnt p2 = i + 1 := by
        rw [cnt_names hw2.names]
        have : cnt p' = cnt a + cnt b := by unfold cnt; rw [mp, List.length_append]
        rw [this]
        rcases hab with ⟨rfl, rfl⟩ | ⟨rfl, rfl⟩ <;> omega
      have hmm : ∀ y ∈ namesAt p2, y ∈ names.take 4 := fun y hy => by
        rw [hw2.names, mp] at hy
        rcases hab with ⟨rfl, rfl⟩ | ⟨rfl, rfl⟩ <;> rcases List.mem_append.mp hy with h | h
        · exact pj.mem y h
        · exact m1 y h
        · exact m1 y h
        · exact pj.mem y h
      refine s_nil ⟨p2, k' + 1 + 1 + 1 + 1, _, _, _, _, ⟨?_, ?_, c2, hmm⟩, by omega, rfl⟩
      · rcases hab with ⟨rfl, rfl⟩ | ⟨rfl, rfl⟩ <;> omega
      · rcases hab with ⟨rfl, rfl⟩ | ⟨rfl, rfl⟩ <;> omega
    subst e
    exact s_nil ⟨p2, k2, _, _, _, _, pj2, by omega, by omega, rfl⟩
  · subst e
    rw [rng_len] at pj hk'
    have em : ((m : Nat) : Int).toNat = m := by omega
    rw [em] at pj hk'
    exact s_cons (t_ret (j_nm 4 rfl ⟨_, rfl, q p k' pj hk'⟩))
end
end DL

set_option Elab.async false
set_option linter.all false
set_option maxRecDepth 100000
set_option autoImplicit false
set_option maxHeartbeats 4000000
/-! E38: the law's schema. -/
namespace DL
open PySem PySem.Spec L2
/-- a schema of the law -/
structure LawS (S : Schema) : Prop where
  wf : WfS S
  four : S.rules.length = 4
  depth : ∀ r ∈ S.rules, r.pat.depth ≤ 7
  nodes : ∀ r ∈ S.rules, r.pat.nodes ≤ 19
  mem : ∀ r ∈ S.rules, ∀ x ∈ namesAt r.pat, x ∈ S.rules.map Rule.name
  roots : ∀ x ∈ S.roots, x ∈ S.rules.map Rule.name
  ne : S.roots ≠ []
  few : S.roots.length ≤ 5
def BIG : Str := "ABCDEFGHIJKLMNOPQRSTUVWXYZ"
theorem big26 : BIG.cps.toList.length = 26 ∧ BIG.cps.toList.Nodup := by decide +kernel
theorem small26 : SMALL.cps.toList.length = 26 ∧ SMALL.cps.toList.Nodup := by decide +kernel
theorem q81 : ("Q" : Str) = ⟨#[81]⟩ := by decide +kernel
theorem p80 : ("P" : Str) = ⟨#[80]⟩ := by decide +kernel
theorem m109 : ("m" : Str) = ⟨#[109]⟩ ∧ 109 ∈ SMALL.cps.toList := by decide +kernel
theorem heads_tag {hs : List Str} (h : Heads 109 SMALL.cps.toList hs) {t : Str} (ht : t ∈ hs) : tagOk t := by
  have h1 := h.len t ht
  unfold tagOk allOf
  simp only [Bool.and_eq_true, decide_eq_true_eq, List.all_eq_true]
  refine ⟨⟨by omega, by omega⟩, fun c hc => ?_⟩
  rcases h.mem t ht c hc with e | e
  · rw [e]; exact m109.2
  · exact e
theorem mark_at {z : Nat} (h : z < 3) : ∃ c, L2.atI ("-:?" : Str).cps.toList (z : Int) = some c := by
  have e : ("-:?" : Str).cps.toList.length = 3 := by decide +kernel
  have hz : z < ("-:?" : Str).cps.toList.length := by omega
  exact ⟨_, atI_nat (List.getElem?_eq_getElem hz)⟩
theorem mark_len : ("-:?" : Str).length ≤ sizeLine := small9 (by decide +kernel)
/-- the sizes of the first three rules -/
def szR : List (List Nat) := [[2, 2, 2], [3, 2, 1], [1, 3, 2], [0, 2, 3], [3, 0, 3], [2, 1, 3], [1, 3, 1], [1, 1, 1]]
theorem szR_at {z : Nat} (h : z < 8) : ∃ l, szR[z]? = some l ∧ l.length = 3 ∧ l.sum ≤ 6 ∧ ∀ x ∈ l, x ≤ 3 := by
  have : z = 0 ∨ z = 1 ∨ z = 2 ∨ z = 3 ∨ z = 4 ∨ z = 5 ∨ z = 6 ∨ z = 7 := by omega
  rcases this with rfl | rfl | rfl | rfl | rfl | rfl | rfl | rfl <;> exact ⟨_, rfl, by decide, by decide, by decide⟩
/-- the rules so far -/
structure RulesJ (names tags : List Str) (szs : List Nat) (i : Nat) (rs : List Rule) : Prop where
  len : rs.length = i
  nms : rs.map Rule.name = names.take i
  tags : ∀ r ∈ rs, r.tag ∈ tags
  cnts : (rs.map fun r => cnt r.pat) = szs.take i
  pats : ∀ r ∈ rs, ∃ m, m ≤ 3 ∧ PatJ (names.take 4) m r.pat
theorem rulesJ0 (names tags : List Str) (szs : List Nat) : RulesJ names tags szs 0 [] := ⟨rfl, rfl, (fun r h => by cases h), rfl, (fun r h => by cases h)⟩
theorem RulesJ.snoc {names tags : List Str} {szs : List Nat} {i : Nat} {rs : List Rule} (h : RulesJ names tags szs i rs) {r : Rule} {m : Nat} (h1 : names[i]? = some r.name) (h2 : r.tag ∈ tags) (h3 : szs[i]? = some m) (hm : m ≤ 3) (h4 : PatJ (names.take 4) m r.pat) : RulesJ names tags szs (i + 1) (rs ++ [r]) := by
  refine ⟨?_, ?_, fun x hx => ?_, ?_, fun x hx => ?_⟩
  · rw [List.length_append, h.len]; rfl
  · rw [List.map_append, h.nms, take_snoc h1]; rfl
  · rcases List.mem_append.mp hx with hx | hx
    · exact h.tags x hx
    · have : x = r := by simpa using hx
      rw [this]; exact h2
  · rw [List.map_append, h.cnts, take_snoc h3]
    rw [List.map_cons, List.map_nil, h4.cnt]
  · rcases List.mem_append.mp hx with hx | hx
    · exact h.pats x hx
    · have : x = r := by simpa using hx
      rw [this]; exact ⟨m, hm, h4⟩
theorem RulesJ.law {names tags : List Str} {szs : List Nat} {rs : List Rule} (h : RulesJ names tags szs 4 rs) (n5 : names.length = 5) (hn : names.Nodup) (ht : ∀ t ∈ tags, tagOk t) (t3 : tags.length ≤ 3) (hs : szs.sum ≤ 6) (s4 : szs.length = 4) {rt : List Str} (h1 : ∀ x ∈ rt, x ∈ names.take 4) (h2 : rt ≠ []) (h3 : rt.length ≤ 4) : LawS ⟨rt, rs⟩ := by
  have e4 : szs.take 4 = szs := List.take_of_length_le (by omega)
  refine ⟨⟨by rw [h.len]; omega, ?_, fun r hr => ht _ (h.tags r hr), fun r hr => ?_, ?_, by show rt.length ≤ 10; omega, ⟨tags, t3, h.tags⟩⟩, h.len, fun r hr => ?_, fun r hr => ?_, fun r hr x hx => ?_, fun x hx => ?_, h2, by show rt.length ≤ 5; omega⟩
  · show (rs.map Rule.name).Nodup
    rw [h.nms]; exact (List.take_sublist 4 names).nodup hn
  · obtain ⟨m, hm, p⟩ := h.pats r hr
    have := p.depth; have := p.nodes; have := p.cnt
    exact ⟨by omega, by omega, by omega⟩
  · show (rs.map fun r => cnt r.pat).sum ≤ 6
    rw [h.cnts, e4]; exact hs
  · obtain ⟨m, hm, p⟩ := h.pats r hr
    have := p.depth; omega
  · obtain ⟨m, hm, p⟩ := h.pats r hr
    have := p.nodes; omega
  · obtain ⟨m, hm, p⟩ := h.pats r hr
    show x ∈ rs.map Rule.name
    rw [h.nms]; exact p.mem x hx
  · show x ∈ rs.map Rule.name
    rw [h.nms]; exact h1 x hx
section
variable {P : Program} {w : World} {K : PySem.W.Frag} {mg : Str → Option Value} {base : Heap}
def sSchema : FS := fun as R => ∃ (ns : List Int) (k : Nat), as = [.val (scD ns), .own (atD k)] ∧ ns.length ≤ 63 ∧ k < 2 ^ 48 ∧ ∀ S k', LawS S → k' ≤ k + 100 → R (encS S) [atD k']
theorem d_schema (M : Names mg) (D1 : DefOk P w K mg base "_law_next" 2 sNextL) (D2 : DefOk P w K mg base "_law_heads" 1 sHeads) (D3 : DefOk P w K mg base "_law_pattern" 4 sPattern) (h : Has K mg "_law_schema" (top 67) ["_law_script", "_law_at"]) : DefOk P w K mg base "_law_schema" 5 sSchema := by
  refine def_D h ["_law_script", "_law_at", "_law_names", "_law_tags", "_law_sizes", "_law_rules", "_law_j", "_law_tag", "_law_mark", "_law_first", "_law_roots"] ⟨rfl, rfl, rfl, by decide +kernel, rfl, by decide +kernel, by decide +kernel⟩ (fun as R ⟨_, _, e, _⟩ => by subst e; rfl) fun f cdv A outer s H E as R hr hu nd ⟨ns, k, e, h63, hk, q⟩ => ?_
  subst e
  have hz := szl
  refine s_cons (t_asg 2 (j_call D2 (hr.mono (by decide)) (a_cons (v_val (j_call D1 (hr.mono (by decide)) (a_cons (v_val (j_nm 0 rfl (a_cons (v_own 1 rfl (a_cons (v_val (j_int (a_nil ⟨_, rfl, nd1, ⟨ns, k, 1664, rfl, h63, by omega, by decide, fun z hz => (a_cons (v_val (j_str (a_cons (v_val (j_str (a_cons (v_val (j_int (a_nil ⟨_, rfl, nd0, ⟨z, 81, _, BIG, 5, rfl, q81, by omega, big26.1, big26.2, by decide, fun names hn5 hn => ?_⟩⟩))))))))))⟩⟩))))))))))))) nd)
  refine s_norm [.val (scD ns), .own (some 0) (atD (k + 1)), .val (.lst (names.map .str)), .un, .un, .un, .un, .un, .un, .un, .un] rfl ?_
  refine s_cons (t_asg 3 (j_call D2 (hr.mono (by decide)) (a_cons (v_val (j_call D1 (hr.mono (by decide)) (a_cons (v_val (j_nm 0 rfl (a_cons (v_own 1 rfl (a_cons (v_val (j_int (a_nil ⟨_, rfl, nd1, ⟨ns, k + 1, 1664, rfl, h63, by omega, by decide, fun z hz => (a_cons (v_val (j_str (a_cons (v_val (j_str (a_cons (v_val (j_int (a_nil ⟨_, rfl, nd0, ⟨z, 109, _, SMALL, 3, rfl, m109.1, by omega, small26.1, small26.2, by decide, fun tags ht3 ht => ?_⟩⟩))))))))))⟩⟩))))))))))))) nd)
  refine s_norm [.val (scD ns), .own (some 0) (atD (k + 1 + 1)), .val (.lst (names.map .str)), .val (.lst (tags.map .str)), .un, .un, .un, .un, .un, .un, .un] rfl ?_
  refine s_cons (t_asg 4 (j_lst (l_cons (j_lst (l_cons (j_int (l_cons (j_int (l_cons (j_int (l_nil (l_cons (j_lst (l_cons (j_int (l_cons (j_int (l_cons (j_int (l_nil (l_cons (j_lst (l_cons (j_int (l_cons (j_int (l_cons (j_int (l_nil (l_cons (j_lst (l_cons (j_int (l_cons (j_int (l_cons (j_int (l_nil (l_cons (j_lst (l_cons (j_int (l_cons (j_int (l_cons (j_int (l_nil (l_cons (j_lst (l_cons (j_int (l_cons (j_int (l_cons (j_int (l_nil (l_cons (j_lst (l_cons (j_int (l_cons (j_int (l_cons (j_int (l_nil (l_cons (j_lst (l_cons (j_int (l_cons (j_int (l_cons (j_int (l_nil (l_nil ?_)))))))))))))))))))))))))))))))))))))))))))))))))))))))))))))))))))))))))) nd)
  refine s_norm [.val (scD ns), .own (some 0) (atD (k + 1 + 1)), .val (.lst (names.map .str)), .val (.lst (tags.map .str)), .val (.lst (szR.map rowD)), .un, .un, .un, .un, .un, .un] rfl ?_
  refine s_cons (t_asg 4 (j_bin (j_ix (v_val (j_nm 4 rfl (j_call D1 (hr.mono (by decide)) (a_cons (v_val (j_nm 0 rfl (a_cons (v_own 1 rfl (a_cons (v_val (j_int (a_nil ⟨_, rfl, nd1, ⟨ns, k + 1 + 1, 8, rfl, h63, by omega, by decide, fun z hz => ?_⟩⟩)))))))))))) )) nd)
  obtain ⟨l3, el, l3n, l3s, l3m⟩ := szR_at hz
  refine ⟨_, rfl, xd_lst (atI_map el) (j_lst (l_cons (j_int (l_nil (bd_addL (by rw [List.length_map]; show l3.length + 1 ≤ _; omega) ?_)))))⟩
  obtain ⟨szs, es, s4, ss, sm⟩ : ∃ szs : List Nat, l3.map nD ++ [Dt.int 0] = szs.map nD ∧ szs.length = 4 ∧ szs.sum ≤ 6 ∧ ∀ x ∈ szs, x ≤ 3 :=
    ⟨l3 ++ [0], by rw [List.map_append]; rfl, by rw [List.length_append, l3n]; rfl, by rw [List.sum_append]; simpa using l3s, fun x hx => by
      rcases List.mem_append.mp hx with h | h
      · exact l3m x h
      · have : x = 0 := by simpa using h
        omega⟩
  rw [es]
  refine s_norm [.val (scD ns), .own (some 0) (atD (k + 1 + 1 + 1)), .val (.lst (names.map .str)), .val (.lst (tags.map .str)), .val (.lst (szs.map nD)), .un, .un, .un, .un, .un, .un] rfl ?_
  refine s_cons (t_asgN 5 (n_lst (l_nil ?_)) nd)
  refine s_cons (t_for (i_rng1 M.range (j_int ⟨_, rfl, ⟨by decide, by decide⟩, ⟨fun i ρ => ∃ (rs : List Rule) (k' : Nat) (d6 d7 d8 : Slot), RulesJ names tags szs i rs ∧ k' ≤ k + 3 + 14 * i ∧
    ρ = [.val (scD ns), .own (some 0) (atD k'), .val (.lst (names.map .str)), .val (.lst (tags.map .str)), .val (.lst (szs.map nD)), .own none (.lst (rs.map encR)), d6, d7, d8, .un, .un], ⟨[], k + 3, _, _, _, rulesJ0 names tags szs, by omega, rfl⟩, fun i d ρ hd ⟨rs, k', _, _, _, rj, hk', e⟩ => ?_, fun ρ ⟨rs, k', _, _, _, rj, hk', e⟩ => ?_⟩⟩)))
  · subst e
    obtain ⟨hi, rfl⟩ := rget hd
    have hi : i < 4 := by omega
    have hp : (0 : Int) + (i : Int) * 1 = (i : Int) := by omega
    rw [hp]
    refine g_nm 6 ?_ nd
    refine s_cons (t_asg 7 (j_ix (v_val (j_nm 3 rfl (j_call D1 (hr.mono (by decide)) (a_cons (v_val (j_nm 0 rfl (a_cons (v_own 1 rfl (a_cons (v_val (j_int (a_nil ⟨_, rfl, nd1, ⟨ns, k', 3, rfl, h63, by omega, by decide, fun z hz => ?_⟩⟩))))))))))))) nd)
    have ztl : z < tags.length := by omega
    have et : L2.atI (tags.map Dt.str) (z : Int) = some (.str tags[z]) := atI_map (List.getElem?_eq_getElem ztl)
    have htm : tags[z] ∈ tags := List.getElem_mem ztl
    generalize tags[z] = tg at et htm
    refine ⟨_, rfl, xd_lst et ?_⟩
    refine s_norm [.val (scD ns), .own (some 0) (atD (k' + 1)), .val (.lst (names.map .str)), .val (.lst (tags.map .str)), .val (.lst (szs.map nD)), .own none (.lst (rs.map encR)), .val (nD i), .val (.str tg), _, .un, .un] rfl ?_
    refine s_cons (t_asg 8 (j_ix (v_val (j_str (j_call D1 (hr.mono (by decide)) (a_cons (v_val (j_nm 0 rfl (a_cons (v_own 1 rfl (a_cons (v_val (j_int (a_nil ⟨_, rfl, nd1, ⟨ns, k' + 1, 3, rfl, h63, by omega, by decide, fun z hz => ?_⟩⟩))))))))))))) nd)
    obtain ⟨mk, emk⟩ := mark_at hz
    refine ⟨_, rfl, xd_str mark_len emk ?_⟩
    refine s_norm [.val (scD ns), .own (some 0) (atD (k' + 1 + 1)), .val (.lst (names.map .str)), .val (.lst (tags.map .str)), .val (.lst (szs.map nD)), .own none (.lst (rs.map encR)), .val (nD i), .val (.str tg), .val (.str ⟨#[mk]⟩), .un, .un] rfl ?_
    have hil : i < names.length := by omega
    have en := List.getElem?_eq_getElem hil
    have hsl : i < szs.length := by omega
    have esz := List.getElem?_eq_getElem hsl
    have hsm := sm _ (List.getElem_mem hsl)
    generalize names[i] = nm at en
    generalize szs[i] = sz at esz hsm
    refine s_cons (t_append 5 rfl ⟨_, rfl⟩ (j_tup (l_cons (j_ix (v_val (j_nm 2 rfl (j_nm 6 rfl ⟨_, rfl, xd_lst (atI_map en) (l_cons (j_nm 7 rfl (l_cons (j_nm 8 rfl (l_cons (j_call D3 (hr.mono (by decide)) (a_cons (v_val (j_nm 0 rfl (a_cons (v_own 1 rfl (a_cons (v_val (j_nm 2 rfl (a_cons (v_val (j_ix (v_val (j_nm 4 rfl (j_nm 6 rfl ⟨_, rfl, xd_lst (atI_map esz) (a_nil ⟨_, rfl, nd1, ⟨ns, k' + 1 + 1, names, sz, rfl, h63, by omega, by omega, hsm, fun p k2 pj hk2 => (l_nil ⟨_, _, rfl, ?_, ?_⟩)⟩⟩)⟩))))))))))))))))))))⟩)))))))
    · rw [List.length_map, rj.len]; omega
    refine s_nil ⟨rs ++ [⟨nm, tg, ⟨#[mk]⟩, p⟩], k2, .val (nD i), .val (.str tg), .val (.str ⟨#[mk]⟩), rj.snoc en htm esz hsm pj, by omega, ?_⟩
    rw [List.map_append]
    rfl
  · subst e
    rw [rng_len] at rj hk'
    have e4 : ((4 : Int)).toNat = 4 := rfl
    rw [e4] at rj hk'
    refine s_freeze 5 rfl ?_
    refine s_norm [.val (scD ns), .own (some 0) (atD k'), .val (.lst (names.map .str)), .val (.lst (tags.map .str)), .val (.lst (szs.map nD)), .val (.lst (rs.map encR)), _, _, _, .un, .un] rfl ?_
    refine s_cons (t_asg 9 (j_call D1 (hr.mono (by decide)) (a_cons (v_val (j_nm 0 rfl (a_cons (v_own 1 rfl (a_cons (v_val (j_int (a_nil ⟨_, rfl, nd1, ⟨ns, k', 4, rfl, h63, by omega, by decide, fun z hz => ?_⟩⟩)))))))))) nd)
    refine s_norm [.val (scD ns), .own (some 0) (atD (k' + 1)), .val (.lst (names.map .str)), .val (.lst (tags.map .str)), .val (.lst (szs.map nD)), .val (.lst (rs.map encR)), _, _, _, .val (nD z), .un] rfl ?_
    refine s_cons (t_asgLc 10 [("_law_j", 6)] (i_rng1 M.range (j_int ⟨_, rfl, ⟨by decide, by decide⟩, ⟨fun i acc ρ => ∃ (rt : List Str) (k2 : Nat) (d7 d8 : Slot), acc = rt.map .str ∧ (∀ x ∈ rt, x ∈ names.take 4) ∧ rt.length ≤ i ∧ (z < i → rt ≠ []) ∧ k2 ≤ k' + 1 + i ∧
      ρ = [.val (scD ns), .own (some 0) (atD k2), .val (.lst (names.map .str)), .val (.lst (tags.map .str)), .val (.lst (szs.map nD)), .val (.lst (rs.map encR)), .un, d7, d8, .val (nD z), .un], by rw [rng_len]; decide, ⟨([] : List Str), k' + 1, _, _, rfl, (fun x h => absurd h (by simp)), Nat.le_refl _, (fun h => by omega), by omega, rfl⟩, fun i d acc ρ hd hu' ⟨rt, k2, _, _, ea, h1, h2, h3, h4, e⟩ => ?_, fun acc ρ hu' ⟨rt, k2, _, _, ea, h1, h2, h3, h4, e⟩ => ?_⟩⟩)) nd (blk ["_law_script", "_law_at", "_law_names", "_law_tags", "_law_sizes", "_law_rules", "_law_j", "_law_tag", "_law_mark", "_law_first", "_law_roots"] (defScope (top 67)) (by decide +kernel)))
    · subst e ea
      obtain ⟨hi, rfl⟩ := rget hd
      have hi : i < 4 := by omega
      have hp : (0 : Int) + (i : Int) * 1 = (i : Int) := by omega
      rw [hp]
      have hil : i < names.length := by omega
      have en := List.getElem?_eq_getElem hil
      have hmem : names[i] ∈ names.take 4 := List.mem_take_iff_getElem.mpr ⟨i, by omega, rfl⟩
      generalize names[i] = nm at en hmem
      have h1' : ∀ x ∈ rt ++ [nm], x ∈ names.take 4 := fun x hx => by
        rcases List.mem_append.mp hx with hx | hx
        · exact h1 x hx
        · have : x = nm := by simpa using hx
          rw [this]; exact hmem
      have hl' : (rt ++ [nm]).length ≤ i + 1 := by rw [List.length_append]; show rt.length + 1 ≤ i + 1; omega
      have hn' : z < i + 1 → rt ++ [nm] ≠ [] := fun _ => by simp
      have hm' : rt.map Dt.str ++ (some (Dt.str nm)).toList = (rt ++ [nm]).map Dt.str := by rw [List.map_append]; rfl
      have hs' : decide ((i : Int) = (z : Int)) = false → z < i + 1 → rt ≠ [] := fun hc h => h3 (by
        have : ¬ (i : Int) = (z : Int) := of_decide_eq_false hc
        omega)
      exact fun s H C cl fp => b_nm 6 (fun s H C cl fp => ts_one (jt_bool (jw_or (jt_cmp (j_nm 6 rfl (v_val (j_nm 9 rfl ⟨_, rfl, cd_eq ⟨(fun hc => jw_or1 (jt_cmp (j_call D1 (hr.mono (by decide)) (a_cons (v_val (j_nm 0 rfl (a_cons (v_own 1 rfl (a_cons (v_val (j_int (a_nil ⟨_, rfl, nd1, ⟨ns, k2, 4, rfl, h63, by omega, by decide, fun y hy => (v_val (j_int ⟨_, rfl, cd_eq ⟨(fun hb s H C cl fp => j_ix (v_val (j_nm 2 rfl (j_nm 6 rfl ⟨_, rfl, xd_lst (atI_map en) ⟨rt ++ [nm], k2 + 1, _, _, hm', h1', hl', hn', by omega, rfl⟩⟩)))), (fun hb => ⟨rt, k2 + 1, _, _, by simp, h1, by omega, hs' hc, by omega, rfl⟩)⟩⟩))⟩⟩)))))))))))), (fun hc => ⟨(fun hb s H C cl fp => j_ix (v_val (j_nm 2 rfl (j_nm 6 rfl ⟨_, rfl, xd_lst (atI_map en) ⟨rt ++ [nm], k2, _, _, hm', h1', hl', hn', by omega, rfl⟩⟩)))), (fun hb => by cases hb)⟩)⟩⟩))))))) (by decide) nd
    · subst e ea
      rw [rng_len] at h2 h3 h4
      rw [e4] at h2 h3 h4
      refine s_freeze 10 rfl ?_
      refine s_norm [.val (scD ns), .own (some 0) (atD k2), .val (.lst (names.map .str)), .val (.lst (tags.map .str)), .val (.lst (szs.map nD)), .val (.lst (rs.map encR)), .un, _, _, .val (nD z), .val (.lst (rt.map .str))] rfl ?_
      exact s_cons (t_ret (j_tup (l_cons (j_ty "tuple" M.tuple (by decide +kernel) (a_cons (v_val (j_nm 10 rfl (a_nil ⟨_, rfl, kd_tupL (l_cons (j_ty "tuple" M.tuple (by decide +kernel) (a_cons (v_val (j_nm 5 rfl (a_nil ⟨_, rfl, kd_tupL (l_cons (j_tup (l_nil (l_nil ⟨_, rfl, q ⟨rt, rs⟩ k2 (rj.law hn5 hn.nd (fun t h => heads_tag ht h) (by omega) ss s4 h1 (h3 (by omega)) h2) (by omega)⟩))))⟩))))))⟩))))))))
end
end DL

set_option Elab.async false
set_option linter.all false
set_option maxRecDepth 100000
set_option autoImplicit false
set_option maxHeartbeats 4000000
/-! E39: a pattern told anew. -/
namespace DL
open PySem PySem.Spec L2
section
variable {P : Program} {w : World} {K : PySem.W.Frag} {mg : Str → Option Value} {base : Heap}
def sTold (n : Nat) : FS := fun as R => ∃ (ns : List Int) (k : Nat) (p : Pat) (kvs : List (Key × Dt)) (f : Str → Str), as = [.val (scD ns), .own (atD k), .val (encP p), .val (.dK kvs)] ∧ ns.length ≤ 63 ∧ p.depth ≤ n ∧ p.nodes ≤ 1000 ∧ k + p.nodes < 2 ^ 49 ∧ (∀ x ∈ namesAt p, valD kvs (.inr x) = some (.str (f x))) ∧
  ∀ p' k', Tld f p p' → k' ≤ k + p.nodes → R (encP p') [atD k']
theorem d_told (M : Names mg) (D1 : DefOk P w K mg base "_law_next" 2 sNextL) (h : Has K mg "_law_told_anew" (top 68) ["_law_script", "_law_at", "_law_pattern_here", "_law_turned_here"]) : ∀ n, DefOk P w K mg base "_law_told_anew" (n + 3) (sTold n)
  | 0 => def_D h ["_law_script", "_law_at", "_law_pattern_here", "_law_turned_here", "_law_way", "_law_parts", "_law_part", "_law_inner"] ⟨rfl, rfl, rfl, by decide +kernel, rfl, by decide +kernel, by decide +kernel⟩ (fun as R ⟨_, _, _, _, _, e, _⟩ => by subst e; rfl) fun f cdv A outer s H E as R hr hu nd ⟨_, _, p, _, _, _, _, hd, _⟩ => absurd (depth_pos p) (by omega)
  | n + 1 => by
    have D := d_told M D1 h n
    refine def_D (k := n + 3) h ["_law_script", "_law_at", "_law_pattern_here", "_law_turned_here", "_law_way", "_law_parts", "_law_part", "_law_inner"] ⟨rfl, rfl, rfl, by decide +kernel, rfl, by decide +kernel, by decide +kernel⟩ (fun as R ⟨_, _, _, _, _, e, _⟩ => by subst e; rfl) fun fa cdv A outer s H E as R hr hu nd ⟨ns, k, p, kvs, f, e, h63, hd, hn, hk, hkv, q⟩ => ?_
    subst e
    have hz := szl
    rw [encP_eq]
    refine s_cons (t_ifB _ (jt_cmp (j_ix (v_val (j_nm 2 rfl (j_int ⟨_, rfl, xd_tup rfl (v_val (j_str ⟨_, rfl, cd_eqS ⟨rfl, rfl⟩⟩))⟩))))) (fun h => ?_) (fun h => ?_))
    · obtain ⟨x, rfl⟩ := k_one (of_decide_eq_true h)
      have hx := hkv x (by rw [namesAt]; simp)
      exact s_cons (t_ret (j_tup (l_cons (j_str (l_cons (j_ix (v_val (j_nm 3 rfl (j_ix (v_val (j_nm 2 rfl (j_int ⟨_, rfl, xd_tup rfl ⟨_, rfl, xd_dKs hu hx (l_nil ⟨_, rfl, q _ k (tld_one x) (by omega)⟩)⟩⟩))))))))))))
    have hone : kind p ≠ "one" := of_decide_eq_false h
    have hn1 : 1 ≤ p.nodes := by cases p <;> unfold Pat.nodes <;> omega
    refine s_nil ?_
    refine s_cons (t_asg 4 (j_call D1 (hr.mono (by omega)) (a_cons (v_val (j_nm 0 rfl (a_cons (v_own 1 rfl (a_cons (v_val (j_int (a_nil ⟨_, rfl, nd1, ⟨ns, k, 4, rfl, h63, by omega, by decide, fun z hz => ?_⟩⟩)))))))))) nd)
    refine s_norm [.val (scD ns), .own (some 0) (atD (k + 1)), .val (.tup [.str (kind p), argP p]), .val (.dK kvs), .val (nD z), .un, .un, .un] rfl ?_
    refine s_cons (t_ifB _ (jtb_bool (jwb_or (jt_cmp (j_ix (v_val (j_nm 2 rfl (j_int ⟨_, rfl, xd_tup rfl (v_val (j_str ⟨_, rfl, cd_eqS ⟨rfl, rfl⟩⟩))⟩))))) fun h => (jwb_or1 (jt_cmp (j_ix (v_val (j_nm 2 rfl (j_int ⟨_, rfl, xd_tup rfl (v_val (j_str ⟨_, rfl, cd_eqS ⟨rfl, rfl⟩⟩))⟩))))))) ⟨rfl, rfl⟩) (fun h => ?_) (fun h => ?_))
    · obtain ⟨ps, e1, e2, e3, e4, e5⟩ : ∃ ps, argP p = .tup (encPs ps) ∧ namesAt p = namesAts ps ∧ p.depth = depths ps + 1 ∧ p.nodes = nodess ps + 1 ∧ (p = .row ps ∨ p = .any ps) := by
        rw [Bool.or_eq_true] at h
        rcases h with h | h
        · obtain ⟨ps, rfl⟩ := k_row (of_decide_eq_true h)
          exact ⟨ps, rfl, by rw [namesAt], by rw [Pat.depth], by rw [Pat.nodes], .inl rfl⟩
        · obtain ⟨ps, rfl⟩ := k_any (of_decide_eq_true h)
          exact ⟨ps, rfl, by rw [namesAt], by rw [Pat.depth], by rw [Pat.nodes], .inr rfl⟩
      rw [e2] at hkv
      rw [e3] at hd
      rw [e4] at hk hn
      rw [e1, encPs_eq]
      have hpl : ps.length ≤ nodess ps := by
        clear e1 e2 e3 e4 e5 hkv hd hk hn
        induction ps with
        | nil => simp
        | cons a ps ih => rw [nodess, List.length_cons]; have : 1 ≤ a.nodes := by cases a <;> unfold Pat.nodes <;> omega
                          omega
      refine s_cons (t_asgLc 5 [("_law_part", 6)] (i_tup (j_ix (v_val (j_nm 2 rfl (j_int ⟨_, rfl, xd_tup rfl ⟨_, rfl, fun i acc ρ => ∃ (ps' : List Pat) (k' : Nat), acc = ps'.map encP ∧ Tlds f (ps.take i) ps' ∧ k' ≤ k + 1 + nodess (ps.take i) ∧
        ρ = [.val (scD ns), .own (some 0) (atD k'), .val (.tup [.str (kind p), .tup (ps.map encP)]), .val (.dK kvs), .val (nD z), .un, .un, .un], by rw [List.length_map]; omega, ⟨[], k + 1, rfl, .nil, by omega, rfl⟩, fun i d acc ρ hd' hu' ⟨ps', k', ea, tl, hk', e⟩ => ?_, fun acc ρ hu' ⟨ps', k', ea, tl, hk', e⟩ => ?_⟩⟩))))) nd (blk ["_law_script", "_law_at", "_law_pattern_here", "_law_turned_here", "_law_way", "_law_parts", "_law_part", "_law_inner"] (defScope (top 68)) (by decide +kernel)))
      · subst e ea
        obtain ⟨x, hx, rfl⟩ := mget hd'
        have hm := List.mem_of_getElem? hx
        have hxd := depth_mem hm
        have hxn := nodes_mem hm
        have ht := nodess_take ps (i + 1)
        have es : nodess (ps.take (i + 1)) = nodess (ps.take i) + x.nodes := by rw [take_snoc hx, nodess_app, nodess, nodess]
                                                                                omega
        have hkx : ∀ y ∈ namesAt x, valD kvs (.inr y) = some (.str (f y)) := fun y hy => hkv y (by rw [namesAts_eq]; exact List.mem_flatMap.mpr ⟨x, hm, hy⟩)
        exact fun s H C cl fp => b_nm 6 (fun s H C cl fp => ts_nil ⟨fun _ s H C cl fp => (j_call D (hr.mono (by omega)) (a_cons (v_val (j_nm 0 rfl (a_cons (v_own 1 rfl (a_cons (v_val (j_nm 6 rfl (a_cons (v_val (j_nm 3 rfl (a_nil ⟨_, rfl, nd1, ⟨ns, k', x, kvs, f, rfl, h63, by omega, by omega, by omega, hkx, fun x' k2 tx hk2 => ⟨ps' ++ [x'], k2, by rw [List.map_append]; rfl, by rw [take_snoc hx]; exact tl.snoc tx, by omega, rfl⟩⟩⟩))))))))))))), (fun h => by cases h)⟩) (by decide) nd
      subst e ea
      rw [List.length_map, List.take_length] at tl hk'
      refine s_norm [.val (scD ns), .own (some 0) (atD k'), .val (.tup [.str (kind p), .tup (ps.map encP)]), .val (.dK kvs), .val (nD z), .own none (.lst (ps'.map encP)), .un, .un] rfl ?_
      have hpl' := tl.len
      have hp0 : (0 : Int) < 2 := by decide
      let qs1 := if (decide (kind p = "any") && decide ((z : Int) % 2 = 1)) = true then ps'.reverse else ps'
      have hq1 : qs1.length = ps'.length := by show (if _ then _ else _ : List Pat).length = _; split; exact List.length_reverse; rfl
      refine s_cons (t_ifJ (fun ρ => ρ = [.val (scD ns), .own (some 0) (atD k'), .val (.tup [.str (kind p), .tup (ps.map encP)]), .val (.dK kvs), .val (nD z), .own none (.lst (qs1.map encP)), .un, .un]) _ (jtb_bool (jwb_and (jt_cmp (j_ix (v_val (j_nm 2 rfl (j_int ⟨_, rfl, xd_tup rfl (v_val (j_str ⟨_, rfl, cd_eqS ⟨rfl, rfl⟩⟩))⟩))))) fun h => (jwb_and1 (jt_cmp (j_bin (j_nm 4 rfl (j_int (bd_mod hp0 (v_val (j_int ⟨_, rfl, cd_eq ⟨rfl, rfl⟩⟩))))))))) ⟨rfl, rfl⟩) (fun h => ?_) (fun h => ?_) fun ρ e => ?_)
      · refine s_cons (t_reverse 5 rfl ?_)
        refine s_nil ?_
        show _ = [_, _, _, _, _, Slot.own none (.lst ((if _ then _ else _ : List Pat).map encP)), _, _]
        rw [if_pos h, List.map_reverse]
        rfl
      · refine s_nil ?_
        show _ = [_, _, _, _, _, Slot.own none (.lst ((if _ then _ else _ : List Pat).map encP)), _, _]
        rw [if_neg (by rw [h]; exact Bool.false_ne_true)]
      subst e
      let qs := qs1 ++ if (decide (kind p = "any") && decide (1 < (z : Int))) = true then [Pat.any []] else []
      have hal : Alts ps' qs := alts_ways ps' (decide (kind p = "any") && decide ((z : Int) % 2 = 1)) (decide (kind p = "any") && decide (1 < (z : Int)))
      have hrow : p = .row ps → qs = ps' := fun e => by
        have : decide (kind p = "any") = false := by rw [e]; exact decide_eq_false (by simp only [kind]; decide +kernel)
        show (if _ then _ else _ : List Pat) ++ (if _ then _ else _ : List Pat) = _
        rw [this]
        simp
      have key : (∀ q1, qs = [q1] → Tld f p q1) ∧ ∃ p', encP p' = .tup [.str (kind p), .tup (qs.map encP)] ∧ Tld f p p' := by
        rcases e5 with e5 | e5
        · have := hrow e5
          rw [this]
          refine ⟨fun q1 e => ?_, .row ps', ?_, ?_⟩
          · rw [e5]; rw [e] at tl; exact tld_row1 tl
          · rw [e5, encP, encPs_eq]; rfl
          · rw [e5]; exact tld_row tl
        · refine ⟨fun q1 e => ?_, .any qs, ?_, ?_⟩
          · rw [e5]; rw [e] at hal; exact tld_any1 tl hal
          · rw [e5, encP, encPs_eq]; rfl
          · rw [e5]; exact tld_any tl hal
      refine s_cons (t_ifJ (fun ρ => ρ = [.val (scD ns), .own (some 0) (atD k'), .val (.tup [.str (kind p), .tup (ps.map encP)]), .val (.dK kvs), .val (nD z), .own none (.lst (qs.map encP)), .un, .un]) _ (jtb_bool (jwb_and (jt_cmp (j_ix (v_val (j_nm 2 rfl (j_int ⟨_, rfl, xd_tup rfl (v_val (j_str ⟨_, rfl, cd_eqS ⟨rfl, rfl⟩⟩))⟩))))) fun h => (jwb_and1 (jt_cmp (j_nm 4 rfl (v_val (j_int ⟨_, rfl, cd_gt ⟨rfl, rfl⟩⟩)))))) ⟨rfl, rfl⟩) (fun h => ?_) (fun h => ?_) fun ρ e => ?_)
      · refine s_cons (t_append 5 rfl ⟨_, rfl⟩ (j_tup (l_cons (j_str (l_cons (j_tup (l_nil (l_nil ⟨_, _, rfl, by rw [List.length_map]; omega, ?_⟩))))))))
        refine s_nil ?_
        show _ = [_, _, _, _, _, Slot.own none (.lst ((qs1 ++ if _ then _ else _ : List Pat).map encP)), _, _]
        rw [if_pos h, List.map_append]
        rfl
      · refine s_nil ?_
        show _ = [_, _, _, _, _, Slot.own none (.lst ((qs1 ++ if _ then _ else _ : List Pat).map encP)), _, _]
        rw [if_neg (by rw [h]; exact Bool.false_ne_true), List.append_nil]
      subst e
      obtain ⟨key1, p', key2, key3⟩ := key
      generalize qs = qs at hal key1 key2
      refine s_freeze 5 rfl ?_
      refine s_norm [.val (scD ns), .own (some 0) (atD k'), .val (.tup [.str (kind p), .tup (ps.map encP)]), .val (.dK kvs), .val (nD z), .val (.lst (qs.map encP)), .un, .un] rfl ?_
      refine s_cons (t_ifB _ (jtb_bool (jwb_and (jt_cmp (j_blt "len" M.len (by decide +kernel) (a_cons (v_val (j_nm 5 rfl (a_nil ⟨_, rfl, kd_lenL (v_val (j_int ⟨_, rfl, cd_eq ⟨rfl, rfl⟩⟩))⟩)))))) fun h => (jwb_and1 (jt_cmp (j_nm 4 rfl (v_val (j_int ⟨_, rfl, cd_gt ⟨rfl, rfl⟩⟩)))))) ⟨rfl, rfl⟩) (fun h => ?_) (fun h => ?_))
      · rw [Bool.and_eq_true] at h
        have h1 := of_decide_eq_true h.1
        rw [List.length_map] at h1
        obtain ⟨q1, e⟩ : ∃ q1, qs = [q1] := List.length_eq_one_iff.mp (by omega)
        have t1 := key1 q1 e
        subst e
        exact s_cons (t_ret (j_ix (v_val (j_nm 5 rfl (j_int ⟨_, rfl, xd_lst (d := encP q1) rfl ⟨_, rfl, q q1 k' t1 (by omega)⟩⟩)))))
      refine s_nil ?_
      refine s_cons (t_ret (j_tup (l_cons (j_ix (v_val (j_nm 2 rfl (j_int ⟨_, rfl, xd_tup rfl (l_cons (j_ty "tuple" M.tuple (by decide +kernel) (a_cons (v_val (j_nm 5 rfl (a_nil ⟨_, rfl, kd_tupL (l_nil ⟨_, rfl, ?_⟩)⟩))))))⟩)))))))
      rw [← key2]
      exact q p' k' key3 (by omega)
    rw [Bool.or_eq_false_iff] at h
    have hrow := of_decide_eq_false h.1
    have hany := of_decide_eq_false h.2
    refine s_nil ?_
    obtain ⟨p2, e1, e2, e3, e4⟩ : ∃ p2, argP p = encP p2 ∧ namesAt p = namesAt p2 ∧ p.depth = p2.depth + 1 ∧ p.nodes = p2.nodes + 1 ∧ (p = .may p2 ∨ p = .many p2 ∨ p = .some p2) := by
      cases p with
      | one x => exact absurd rfl hone
      | row ps => exact absurd rfl hrow
      | any ps => exact absurd rfl hany
      | may p => exact ⟨p, rfl, by rw [namesAt], by rw [Pat.depth], by rw [Pat.nodes], .inl rfl⟩
      | many p => exact ⟨p, rfl, by rw [namesAt], by rw [Pat.depth], by rw [Pat.nodes], .inr (.inl rfl)⟩
      | some p => exact ⟨p, rfl, by rw [namesAt], by rw [Pat.depth], by rw [Pat.nodes], .inr (.inr rfl)⟩
    obtain ⟨e4, e5⟩ := e4
    rw [e2] at hkv
    rw [e3] at hd
    rw [e4] at hk hn
    rw [e1]
    refine s_cons (t_asg 7 (j_call D (hr.mono (by omega)) (a_cons (v_val (j_nm 0 rfl (a_cons (v_own 1 rfl (a_cons (v_val (j_ix (v_val (j_nm 2 rfl (j_int ⟨_, rfl, xd_tup rfl (a_cons (v_val (j_nm 3 rfl (a_nil ⟨_, rfl, nd1, ⟨ns, k + 1, p2, kvs, f, rfl, h63, by omega, by omega, by omega, hkv, fun i' k' ti hk' => ?_⟩⟩))))⟩)))))))))))) nd)
    refine s_norm [.val (scD ns), .own (some 0) (atD k'), .val (.tup [.str (kind p), encP p2]), .val (.dK kvs), .val (nD z), .un, .un, .val (encP i')] rfl ?_
    refine s_cons (t_ifB _ (jtb_bool (jwb_and (jt_cmp (j_ix (v_val (j_nm 2 rfl (j_int ⟨_, rfl, xd_tup rfl (v_val (j_str ⟨_, rfl, cd_eqS ⟨rfl, rfl⟩⟩))⟩))))) fun h => (jwb_and1 (jt_cmp (j_nm 4 rfl (v_val (j_int ⟨_, rfl, cd_gt ⟨rfl, rfl⟩⟩)))))) ⟨rfl, rfl⟩) (fun h => ?_) (fun h => ?_))
    · rw [Bool.and_eq_true] at h
      obtain ⟨p3, e⟩ := k_may (of_decide_eq_true h.1)
      have : p2 = p3 := by
        rw [e] at e5
        rcases e5 with e5 | e5 | e5 <;> cases e5
        rfl
      subst this
      subst e
      exact s_cons (t_ret (j_tup (l_cons (j_str (l_cons (j_tup (l_cons (j_nm 7 rfl (l_cons (j_tup (l_cons (j_str (l_cons (j_tup (l_nil (l_nil (l_nil (l_nil ⟨_, rfl, q (.any [i', .row []]) k' (tld_may ti).2.2 (by omega)⟩))))))))))))))))))
    refine s_nil ?_
    refine s_cons (t_ifB _ (jtb_bool (jwb_and (jt_cmp (j_ix (v_val (j_nm 2 rfl (j_int ⟨_, rfl, xd_tup rfl (v_val (j_str ⟨_, rfl, cd_eqS ⟨rfl, rfl⟩⟩))⟩))))) fun h => (jwb_and1 (jt_cmp (j_nm 4 rfl (v_val (j_int ⟨_, rfl, cd_eq ⟨rfl, rfl⟩⟩)))))) ⟨rfl, rfl⟩) (fun h => ?_) (fun h => ?_))
    · rw [Bool.and_eq_true] at h
      obtain ⟨p3, e⟩ := k_many (of_decide_eq_true h.1)
      have : p2 = p3 := by
        rw [e] at e5
        rcases e5 with e5 | e5 | e5 <;> cases e5
        rfl
      subst this
      subst e
      exact s_cons (t_ret (j_tup (l_cons (j_str (l_cons (j_tup (l_cons (j_str (l_cons (j_nm 7 rfl (l_nil (l_nil ⟨_, rfl, q (.may (.some i')) k' (tld_many ti).2.2 (by omega)⟩))))))))))))
    refine s_nil ?_
    have key : ∃ p', encP p' = .tup [.str (kind p), encP i'] ∧ Tld f p p' ∧ Tld f p (.row [p']) := by
      rcases e5 with rfl | rfl | rfl
      · exact ⟨.may i', rfl, (tld_may ti).1, (tld_may ti).2.1⟩
      · exact ⟨.many i', rfl, (tld_many ti).1, (tld_many ti).2.1⟩
      · exact ⟨.some i', rfl, (tld_some ti).1, (tld_some ti).2⟩
    obtain ⟨p', k1, k2, k3⟩ := key
    refine s_cons (t_ifB _ (jt_cmp (j_nm 4 rfl (v_val (j_int ⟨_, rfl, cd_eq ⟨rfl, rfl⟩⟩)))) (fun h => ?_) (fun h => ?_))
    · refine s_cons (t_ret (j_tup (l_cons (j_str (l_cons (j_tup (l_cons (j_tup (l_cons (j_ix (v_val (j_nm 2 rfl (j_int ⟨_, rfl, xd_tup rfl (l_cons (j_nm 7 rfl (l_nil (l_nil (l_nil ⟨_, rfl, ?_⟩)))))⟩)))))))))))))
      rw [← k1]
      exact q (.row [p']) k' k3 (by omega)
    refine s_nil ?_
    refine s_cons (t_ret (j_tup (l_cons (j_ix (v_val (j_nm 2 rfl (j_int ⟨_, rfl, xd_tup rfl (l_cons (j_nm 7 rfl (l_nil ⟨_, rfl, ?_⟩)))⟩)))))))
    rw [← k1]
    exact q p' k' k2 (by omega)
end
end DL

set_option Elab.async false
set_option linter.all false
set_option maxRecDepth 100000
set_option autoImplicit false
set_option maxHeartbeats 4000000
/-! E40: a schema told otherwise: plain facts; turned. -/
namespace DL
open PySem PySem.Spec L2
inductive A2 {α β : Type} (Q : α → β → Prop) : List α → List β → Prop
  | nil : A2 Q [] []
  | cons {a : α} {b : β} {l : List α} {m : List β} : Q a b → A2 Q l m → A2 Q (a :: l) (b :: m)
section
variable {α β : Type} {Q : α → β → Prop} {l : List α} {m : List β}
theorem A2.snoc {a : α} {b : β} (h : A2 Q l m) (k : Q a b) : A2 Q (l ++ [a]) (m ++ [b]) := by
  induction h with
  | nil => exact .cons k .nil
  | cons h1 _ ih => exact .cons h1 ih
theorem A2.len (h : A2 Q l m) : m.length = l.length := by
  induction h with
  | nil => rfl
  | cons _ _ ih => exact congrArg (· + 1) ih
theorem A2.right (h : A2 Q l m) : ∀ b ∈ m, ∃ a ∈ l, Q a b := by
  induction h with
  | nil => intro b h; cases h
  | @cons a b l m h1 _ ih =>
    intro x hx
    rcases List.mem_cons.mp hx with rfl | hx
    · exact ⟨a, List.mem_cons_self, h1⟩
    · obtain ⟨y, h2, h3⟩ := ih x hx
      exact ⟨y, List.mem_cons_of_mem _ h2, h3⟩
theorem A2.left (h : A2 Q l m) : ∀ a ∈ l, ∃ b ∈ m, Q a b := by
  induction h with
  | nil => intro b h; cases h
  | @cons a b l m h1 _ ih =>
    intro x hx
    rcases List.mem_cons.mp hx with rfl | hx
    · exact ⟨b, List.mem_cons_self, h1⟩
    · obtain ⟨y, h2, h3⟩ := ih x hx
      exact ⟨y, List.mem_cons_of_mem _ h2, h3⟩
theorem A2.map {γ : Type} {u : α → γ} {v : β → γ} (h : A2 Q l m) (k : ∀ a b, Q a b → v b = u a) : m.map v = l.map u := by
  induction h with
  | nil => rfl
  | cons h1 _ ih => rw [List.map_cons, List.map_cons, ih, k _ _ h1]
theorem A2.head {a : α} {l : List α} (h : A2 Q (a :: l) m) : ∃ b r, m = b :: r ∧ Q a b := by
  cases h with
  | cons h1 _ => exact ⟨_, _, rfl, h1⟩
end
/-- rule by rule, by f -/
def RuleT (f : Str → Str) (r r' : Rule) : Prop := r'.name = f r.name ∧ r'.tag = r.tag ∧ r'.mark = r.mark ∧ Tld f r.pat r'.pat
/-- the dict of new names behind i rules -/
structure TurnJ (S : Schema) (names : List Str) (i : Nat) (kvs : List (Key × Dt)) : Prop where
  few : kvs.length ≤ i
  hit : ∀ j r n, j < i → S.rules[j]? = some r → names[j]? = some n → valD kvs (.inr r.name) = some (.str n)
  back : ∀ x d, valD kvs (.inr x) = some d → ∃ j r n, j < i ∧ S.rules[j]? = some r ∧ names[j]? = some n ∧ r.name = x ∧ d = .str n
theorem turnJ0 (S : Schema) (names : List Str) : TurnJ S names 0 [] := ⟨Nat.le_refl _, (fun j r n h => absurd h (by omega)), (fun x d h => by cases h)⟩
theorem TurnJ.next {S : Schema} {names : List Str} {i : Nat} {kvs : List (Key × Dt)} (h : TurnJ S names i kvs) (nd : (S.rules.map Rule.name).Nodup) {r : Rule} {n : Str} (hr : S.rules[i]? = some r) (hn : names[i]? = some n) : TurnJ S names (i + 1) (putD kvs (.inr r.name) (.str n)) := by
  refine ⟨?_, fun j r' n' hj h1 h2 => ?_, fun x d hx => ?_⟩
  · have := putD_len kvs (.inr r.name) (.str n); have := h.few; omega
  · rw [valD_put]
    by_cases e : j = i
    · subst e
      rw [hr] at h1; cases h1
      rw [hn] at h2; cases h2
      rw [if_pos rfl]
    · have : r'.name ≠ r.name := fun q => e (by
        refine nodup_at nd (i := j) (j := i) (x := r'.name) ?_ ?_
        · rw [List.getElem?_map, h1]; rfl
        · rw [List.getElem?_map, hr]; exact congrArg some q.symm)
      rw [if_neg (fun q => this (Sum.inr.inj q))]
      exact h.hit j r' n' (by omega) h1 h2
  · rw [valD_put] at hx
    split at hx
    · rename_i e
      have e := Sum.inr.inj e
      cases hx
      exact ⟨i, r, n, by omega, hr, hn, e.symm, rfl⟩
    · obtain ⟨j, r', n', h1, h2⟩ := h.back x d hx
      exact ⟨j, r', n', by omega, h2⟩
/-- the new name -/
def newN (kvs : List (Key × Dt)) (x : Str) : Str := match valD kvs (.inr x) with
  | some (.str y) => y
  | _ => ""
theorem str_len0 : ("" : Str).length = 0 := rfl
section
variable {S : Schema} {names : List Str} {kvs : List (Key × Dt)}
theorem TurnJ.at' (h : TurnJ S names 4 kvs) (ls : LawS S) (n5 : names.length = 5) {r : Rule} (hr : r ∈ S.rules) : ∃ j n, j < 4 ∧ S.rules[j]? = some r ∧ names[j]? = some n ∧ valD kvs (.inr r.name) = some (.str n) ∧ newN kvs r.name = n := by
  obtain ⟨j, hj⟩ := List.getElem?_of_mem hr
  have h4 := ls.four
  have hj4 : j < 4 := by
    have := lt_of_get hj
    omega
  have hn : names[j]? = some names[j] := List.getElem?_eq_getElem (by omega)
  have e := h.hit j r _ hj4 hj hn
  refine ⟨j, _, hj4, hj, hn, e, ?_⟩
  unfold newN
  rw [e]
theorem TurnJ.val (h : TurnJ S names 4 kvs) (ls : LawS S) (n5 : names.length = 5) {x : Str} (hx : x ∈ S.rules.map Rule.name) : valD kvs (.inr x) = some (.str (newN kvs x)) := by
  obtain ⟨r, hr, rfl⟩ := List.mem_map.mp hx
  obtain ⟨j, n, _, _, _, h1, h2⟩ := h.at' ls n5 hr
  rw [h1, h2]
theorem TurnJ.cases (h : TurnJ S names 4 kvs) (x : Str) : newN kvs x = "" ∨ ∃ j r n, j < 4 ∧ S.rules[j]? = some r ∧ names[j]? = some n ∧ r.name = x ∧ newN kvs x = n := by
  unfold newN
  cases e : valD kvs (.inr x) with
  | none => exact .inl rfl
  | some d =>
    obtain ⟨j, r, n, h1, h2, h3, h4, h5⟩ := h.back x d e
    subst h5
    exact .inr ⟨j, r, n, h1, h2, h3, h4, rfl⟩
theorem name_ne {c : Nat} {L : List Nat} (hh : Heads c L names) {n : Str} (h : n ∈ names) : n ≠ "" := fun e => by
  have := (hh.len n h).1
  rw [e, str_len0] at this
  omega
theorem TurnJ.inj {c : Nat} {L : List Nat} (h : TurnJ S names 4 kvs) (ls : LawS S) (n5 : names.length = 5) (hh : Heads c L names) : ∀ r ∈ S.rules, ∀ x, newN kvs x = newN kvs r.name → x = r.name := fun r hr x e => by
  obtain ⟨j, n, h1, h2, h3, h4, h5⟩ := h.at' ls n5 hr
  rcases h.cases x with q | ⟨j', r', n', g1, g2, g3, g4, g5⟩
  · rw [q, h5] at e
    exact absurd e.symm (name_ne hh (List.mem_of_getElem? h3))
  · rw [g5, h5] at e
    subst e
    have : j' = j := nodup_at hh.nd g3 h3
    subst this
    rw [h2] at g2; cases g2
    exact g4.symm
theorem TurnJ.more {c : Nat} {L : List Nat} (h : TurnJ S names 4 kvs) (hh : Heads c L names) {e : Str} (he : names[4]? = some e) : ∀ x, newN kvs x ≠ e := fun x q => by
  rcases h.cases x with z | ⟨j', r', n', g1, g2, g3, g4, g5⟩
  · rw [z] at q
    exact absurd q.symm (name_ne hh (List.mem_of_getElem? he))
  · rw [g5] at q
    subst q
    have := nodup_at hh.nd g3 he
    omega
/-- the schema told otherwise -/
theorem anew_of {c : Nat} {L : List Nat} (h : TurnJ S names 4 kvs) (ls : LawS S) (n5 : names.length = 5) (hh : Heads c L names) {e : Str} (he : names[4]? = some e) {rs rs2 rules : List Rule} {roots : List Str}
    (h2 : A2 (RuleT (newN kvs)) S.rules rs) (hx : rs2 = rs ∨ ∃ r0 ∈ S.rules, rs2 = rs ++ [⟨e, r0.tag, "?", .row []⟩]) (hp : rules.Perm rs2) (hr : roots.Perm (S.roots.map (newN kvs))) :
    WfS ⟨roots, rules⟩ ∧ ∀ t, Admits ⟨roots, rules⟩ t ↔ Admits S t := by
  have h4 := ls.four
  have wf := ls.wf
  have hln := h2.len
  have hsub : ∀ r' ∈ rs, r' ∈ rs2 := fun r' hr' => by
    rcases hx with rfl | ⟨r0, _, rfl⟩
    · exact hr'
    · exact List.mem_append_left _ hr'
  have hb : ∀ r' ∈ rs2, (∃ r ∈ S.rules, RuleT (newN kvs) r r') ∨ (r'.name = e ∧ ∃ r0 ∈ S.rules, r'.tag = r0.tag ∧ r'.pat = .row []) := fun r' hr' => by
    rcases hx with rfl | ⟨r0, hr0, rfl⟩
    · exact .inl (h2.right r' hr')
    · rcases List.mem_append.mp hr' with q | q
      · exact .inl (h2.right r' q)
      · have : r' = ⟨e, r0.tag, "?", .row []⟩ := by simpa using q
        subst this
        exact .inr ⟨rfl, r0, hr0, rfl, rfl⟩
  have hnm : rs.map Rule.name = S.rules.map (fun r => newN kvs r.name) := h2.map fun a b q => q.1
  have hct : (rs.map fun r => cnt r.pat) = S.rules.map fun r => cnt r.pat := h2.map fun a b q => q.2.2.2.cnt
  have hnd : (rs.map Rule.name).Nodup := by
    rw [hnm]
    have nd := wf.names
    unfold List.Nodup at nd ⊢
    rw [List.pairwise_map] at nd ⊢
    exact nd.imp_of_mem fun {a b} ha hb hne q => hne (h.inj ls n5 hh b hb a.name q)
  have hnd2 : (rs2.map Rule.name).Nodup := by
    rcases hx with rfl | ⟨r0, hr0, rfl⟩
    · exact hnd
    · rw [List.map_append]
      refine List.nodup_append.mpr ⟨hnd, by simp, fun a ha b hb => ?_⟩
      have : b = e := by simpa using hb
      subst this
      rw [hnm] at ha
      obtain ⟨r, hr, rfl⟩ := List.mem_map.mp ha
      exact h.more hh he r.name
  have hrt : ∀ y, y ∈ roots ↔ ∃ x ∈ S.roots, newN kvs x = y := fun y => by
    rw [hr.mem_iff, List.mem_map]
  have wfQ : WfS ⟨roots, rules⟩ := by
    refine ⟨?_, ?_, fun r' hr' => ?_, fun r' hr' => ?_, ?_, ?_, ?_⟩
    · show rules.length ≤ 5
      rw [hp.length_eq]
      rcases hx with rfl | ⟨r0, _, rfl⟩
      · omega
      · rw [List.length_append]; show rs.length + 1 ≤ 5; omega
    · exact ((hp.map Rule.name).nodup_iff).mpr hnd2
    · rcases hb r' (hp.mem_iff.mp hr') with ⟨r, q1, q2⟩ | ⟨_, r0, q1, q2, _⟩
      · rw [q2.2.1]; exact wf.tags r q1
      · rw [q2]; exact wf.tags r0 q1
    · rcases hb r' (hp.mem_iff.mp hr') with ⟨r, q1, q2⟩ | ⟨_, r0, q1, _, q3⟩
      · have t := q2.2.2.2
        have := t.depth; have := t.nodes; have := t.cnt; have := ls.depth r q1; have := ls.nodes r q1; have := (wf.pats r q1).cnt
        exact ⟨by omega, by omega, by omega⟩
      · rw [q3]
        exact ⟨by rw [Pat.depth, depths]; omega, by rw [Pat.nodes, nodess]; omega, by rw [cnt_row, cnts_nil]; omega⟩
    · show (rules.map fun r => cnt r.pat).sum ≤ 6
      rw [(hp.map fun r => cnt r.pat).sum_nat]
      have tot := wf.total
      rcases hx with rfl | ⟨r0, _, rfl⟩
      · rw [hct]; exact tot
      · rw [List.map_append, List.sum_append, hct, List.map_cons, List.map_nil, cnt_row, cnts_nil]
        simpa using tot
    · show roots.length ≤ 10
      rw [hr.length_eq, List.length_map]
      have := ls.few
      omega
    · obtain ⟨ts, t1, t2⟩ := wf.three
      refine ⟨ts, t1, fun r' hr' => ?_⟩
      rcases hb r' (hp.mem_iff.mp hr') with ⟨r, q1, q2⟩ | ⟨_, r0, q1, q2, _⟩
      · rw [q2.2.1]; exact t2 r q1
      · rw [q2]; exact t2 r0 q1
  refine ⟨wfQ, fun t => Anew.admits (f := newN kvs) (e := e) ⟨fun r' hr' => ?_, fun r q => ?_, h.inj ls n5 hh, h.more hh he, hrt⟩ wf wfQ t⟩
  · exact (hb r' (hp.mem_iff.mp hr')).imp id fun q => q.1
  · obtain ⟨r', q1, q2⟩ := h2.left r q
    exact ⟨r', hp.mem_iff.mpr (hsub r' q1), q2⟩
end
/-! ### turned -/
theorem cut_map {α : Type} (enc : α → Dt) (xs : List α) (c : Nat) : cutD (xs.map enc) (some (c : Int)) none = (xs.drop c).map enc ∧ cutD (xs.map enc) none (some (c : Int)) = (xs.take c).map enc := by
  unfold cutD
  simp only [HT.sIx_nat, HT.sIx_none]
  rw [ List.length_map, List.drop_zero, ← List.map_drop, ← List.map_take, ← List.map_take]
  constructor
  · congr 1
    by_cases h : c ≤ xs.length
    · rw [Nat.min_eq_left h]
      exact List.take_of_length_le (by rw [List.length_drop]; omega)
    · rw [Nat.min_eq_right (by omega), List.drop_of_length_le (by omega), List.drop_of_length_le (by omega)]
      simp
  · congr 1
    by_cases h : c ≤ xs.length
    · rw [Nat.min_eq_left h]; rfl
    · rw [Nat.min_eq_right (by omega), Nat.sub_zero, List.take_of_length_le (by omega), List.take_of_length_le (by omega)]
section
variable {P : Program} {w : World} {K : PySem.W.Frag} {mg : Str → Option Value} {base : Heap}
def sTurned : FS := fun as R => ∃ (α : Type) (xs : List α) (enc : α → Dt) (z : Nat), as = [.val (.lst (xs.map enc)), .val (nD z)] ∧ xs ≠ [] ∧ xs.length ≤ 1000 ∧ ∀ ys : List α, ys.Perm xs → R (.lst (ys.map enc)) []
theorem d_turned (M : Names mg) (h : Has K mg "_law_turned" (top 69) ["_law_row_here", "_law_number"]) : DefOk P w K mg base "_law_turned" 1 sTurned := by
  refine def_D h ["_law_row_here", "_law_number", "_law_cut"] ⟨rfl, rfl, rfl, by decide +kernel, rfl, by decide +kernel, by decide +kernel⟩ (fun as R ⟨_, _, _, _, e, _⟩ => by subst e; rfl) fun f cdv A outer s H E as R hr hu nd ⟨α, xs, enc, z, e, hne, hlen, q⟩ => ?_
  subst e
  have hz := szl
  have hpos : 0 < xs.length := List.length_pos_iff.mpr hne
  obtain ⟨c, hc, ec⟩ := mod_nat ((z : Int) / 2) hpos
  refine s_cons (t_asg 2 (j_bin (j_bin (j_nm 1 rfl (j_int (bd_fdiv ⟨by decide, by decide⟩ (j_blt "len" M.len (by decide +kernel) (a_cons (v_val (j_nm 0 rfl (a_nil ⟨_, rfl, kd_lenL (bd_mod (by rw [List.length_map]; omega) ?_)⟩)))))))))) nd)
  rw [List.length_map, ec]
  refine s_cons (t_asgN 0 (n_addL (j_slice (v_val (j_nm 0 rfl (o_some (j_nm 2 rfl ⟨_, rfl, (o_none ⟨_, rfl, sd_lst (j_slice (v_val (j_nm 0 rfl (o_none (o_some (j_nm 2 rfl ⟨_, rfl, ⟨_, rfl, sd_lst ⟨_, _, rfl, rfl, ?_, ?_⟩⟩⟩))))))⟩)⟩)))))) nd)
  · rw [(cut_map enc xs c).1, (cut_map enc xs c).2, List.length_map, List.length_map, List.length_drop, List.length_take]
    omega
  rw [(cut_map enc xs c).1, (cut_map enc xs c).2, ← List.map_append]
  have hp : (xs.drop c ++ xs.take c).Perm xs := by
    have := List.perm_append_comm (l₁ := xs.drop c) (l₂ := xs.take c)
    rwa [List.take_append_drop] at this
  generalize xs.drop c ++ xs.take c = ys at hp
  refine s_cons (t_ifJ (fun ρ => ∃ ys : List α, ys.Perm xs ∧ ρ = [.own none (.lst (ys.map enc)), .val (nD z), .val (nD c)]) _ (jt_cmp (j_bin (j_nm 1 rfl (j_int (bd_mod (by decide) (v_val (j_int ⟨_, rfl, cd_eq ⟨rfl, rfl⟩⟩))))))) (fun h => ?_) (fun h => ?_) fun ρ ⟨ys, hp, e⟩ => ?_)
  · refine s_cons (t_reverse 0 rfl ?_)
    refine s_nil ⟨ys.reverse, (List.reverse_perm ys).trans hp, ?_⟩
    rw [List.map_reverse]
    rfl
  · exact s_nil ⟨ys, hp, rfl⟩
  subst e
  exact s_freeze 0 rfl (s_cons (t_ret (j_nm 0 rfl ⟨_, rfl, q ys hp⟩)))
end
end DL

set_option Elab.async false
set_option linter.all false
set_option maxRecDepth 100000
set_option autoImplicit false
set_option maxHeartbeats 4000000
/-! E41: a schema told otherwise; a third one. -/
namespace DL
open PySem PySem.Spec L2
section
variable {P : Program} {w : World} {K : PySem.W.Frag} {mg : Str → Option Value} {base : Heap}
def sOther : FS := fun as R => ∃ (ns : List Int) (k : Nat) (S : Schema), as = [.val (scD ns), .own (atD k), .val (encS S)] ∧ ns.length ≤ 63 ∧ k < 2 ^ 48 ∧ LawS S ∧ ∀ Q k', WfS Q → (∀ t, Admits Q t ↔ Admits S t) → k' ≤ k + 100 → R (encS Q) [atD k']
theorem d_otherwise (M : Names mg) (D1 : DefOk P w K mg base "_law_next" 2 sNextL) (D2 : DefOk P w K mg base "_law_heads" 1 sHeads) (D3 : DefOk P w K mg base "_law_told_anew" (7 + 3) (sTold 7)) (D4 : DefOk P w K mg base "_law_turned" 1 sTurned) (h : Has K mg "_law_otherwise" (top 70) ["_law_script", "_law_at", "_law_schema_here"]) : DefOk P w K mg base "_law_otherwise" 11 sOther := by
  refine def_D h ["_law_script", "_law_at", "_law_schema_here", "_law_names", "_law_turned_here", "_law_j", "_law_rules", "_law_rule", "_law_roots", "_law_name"] ⟨rfl, rfl, rfl, by decide +kernel, rfl, by decide +kernel, by decide +kernel⟩ (fun as R ⟨_, _, _, e, _⟩ => by subst e; rfl) fun f cdv A outer s H E as R hr hu nd ⟨ns, k, S, e, h63, hk, ls, q⟩ => ?_
  subst e
  have hz := szl
  have h4 := ls.four
  have hfew := ls.few
  refine s_cons (t_asg 3 (j_call D2 (hr.mono (by decide)) (a_cons (v_val (j_call D1 (hr.mono (by decide)) (a_cons (v_val (j_nm 0 rfl (a_cons (v_own 1 rfl (a_cons (v_val (j_int (a_nil ⟨_, rfl, nd1, ⟨ns, k, 1664, rfl, h63, by omega, by decide, fun z hz => (a_cons (v_val (j_str (a_cons (v_val (j_str (a_cons (v_val (j_int (a_nil ⟨_, rfl, nd0, ⟨z, 80, _, BIG, 5, rfl, p80, by omega, big26.1, big26.2, by decide, fun names hn5 hn => ?_⟩⟩))))))))))⟩⟩))))))))))))) nd)
  refine s_norm [.val (scD ns), .own (some 0) (atD (k + 1)), .val (encS S), .val (.lst (names.map .str)), .un, .un, .un, .un, .un, .un] rfl ?_
  refine s_cons (t_asgN 4 (n_dK ?_) nd)
  refine s_cons (t_for (i_rng1 M.range (j_int ⟨_, rfl, ⟨by decide, by decide⟩, ⟨fun i ρ => ∃ (kvs : List (Key × Dt)) (d5 : Slot), TurnJ S names i kvs ∧ ρ = [.val (scD ns), .own (some 0) (atD (k + 1)), .val (encS S), .val (.lst (names.map .str)), .own none (.dK kvs), d5, .un, .un, .un, .un], ⟨[], .un, turnJ0 S names, rfl⟩, fun i d ρ hd ⟨kvs, _, tj, e⟩ => ?_, fun ρ ⟨kvs, d5, tj, e⟩ => ?_⟩⟩)))
  · subst e
    obtain ⟨hi, rfl⟩ := rget hd
    have hi : i < 4 := by omega
    have hp : (0 : Int) + (i : Int) * 1 = (i : Int) := by omega
    rw [hp]
    have hil : i < names.length := by omega
    have en := List.getElem?_eq_getElem hil
    have hrl : i < S.rules.length := by omega
    have er := List.getElem?_eq_getElem hrl
    generalize names[i] = nm at en
    generalize S.rules[i] = r at er
    have hkl : kvs.length < sizeLine := by have := tj.few; omega
    refine g_nm 5 ?_ nd
    refine s_cons (t_sub 4 (j_ix (v_val (j_nm 3 rfl (j_nm 5 rfl ⟨_, rfl, xd_lst (atI_map en) ⟨_, _, rfl, (j_ix (v_val (j_ix (v_val (j_ix (v_val (j_nm 2 rfl (j_int ⟨_, rfl, xd_tup rfl (j_nm 5 rfl ⟨_, rfl, xd_tup (atI_map er) (j_int ⟨_, rfl, xd_tup rfl ⟨_, _, rfl, wd_dKs hu hkl ?_⟩⟩)⟩)⟩))))))))⟩⟩)))))
    exact s_nil ⟨_, _, tj.next ls.wf.names er en, rfl⟩
  subst e
  rw [rng_len] at tj
  have e4 : ((4 : Int)).toNat = 4 := rfl
  rw [e4] at tj
  refine s_freeze 4 rfl ?_
  refine s_norm [.val (scD ns), .own (some 0) (atD (k + 1)), .val (encS S), .val (.lst (names.map .str)), .val (.dK kvs), d5, .un, .un, .un, .un] rfl ?_
  refine s_cons (t_asgN 6 (n_lst (l_nil ?_)) nd)
  refine s_cons (t_for (i_tup (j_ix (v_val (j_nm 2 rfl (j_int ⟨_, rfl, xd_tup rfl ⟨_, rfl, ⟨fun i ρ => ∃ (rs : List Rule) (k' : Nat) (d7 : Slot), A2 (RuleT (newN kvs)) (S.rules.take i) rs ∧ k' ≤ k + 1 + 19 * i ∧
    ρ = [.val (scD ns), .own (some 0) (atD k'), .val (encS S), .val (.lst (names.map .str)), .val (.dK kvs), d5, .own none (.lst (rs.map encR)), d7, .un, .un], ⟨[], k + 1, .un, .nil, by omega, rfl⟩, fun i d ρ hd ⟨rs, k', _, a2, hk', e⟩ => ?_, fun ρ ⟨rs, k', d7, a2, hk', e⟩ => ?_⟩⟩⟩))))))
  · subst e
    obtain ⟨r, hx, rfl⟩ := mget hd
    have hm := List.mem_of_getElem? hx
    have hi := lt_of_get hx
    have hl2 := a2.len
    rw [List.length_take] at hl2
    have hdp := ls.depth r hm
    have hnd := ls.nodes r hm
    have hv : valD kvs (.inr r.name) = some (.str (newN kvs r.name)) := tj.val ls hn5 (List.mem_map.mpr ⟨r, hm, rfl⟩)
    have hpv : ∀ x ∈ namesAt r.pat, valD kvs (.inr x) = some (.str (newN kvs x)) := fun x hx => tj.val ls hn5 (ls.mem r hm x hx)
    refine g_nm 7 ?_ nd
    refine s_cons (t_append 6 rfl ⟨_, rfl⟩ (j_tup (l_cons (j_ix (v_val (j_nm 4 rfl (j_ix (v_val (j_nm 7 rfl (j_int ⟨_, rfl, xd_tup rfl ⟨_, rfl, xd_dKs hu hv (l_cons (j_ix (v_val (j_nm 7 rfl (j_int ⟨_, rfl, xd_tup rfl (l_cons (j_ix (v_val (j_nm 7 rfl (j_int ⟨_, rfl, xd_tup rfl (l_cons (j_call D3 (hr.mono (by decide)) (a_cons (v_val (j_nm 0 rfl (a_cons (v_own 1 rfl (a_cons (v_val (j_ix (v_val (j_nm 7 rfl (j_int ⟨_, rfl, xd_tup rfl (a_cons (v_val (j_nm 4 rfl (a_nil ⟨_, rfl, nd1, ⟨ns, k', r.pat, kvs, newN kvs, rfl, h63, hdp, by omega, by omega, hpv, fun p' k2 tl hk2 => (l_nil ⟨_, _, rfl, by rw [List.length_map]; omega, ?_⟩)⟩⟩))))⟩)))))))))))))⟩)))))⟩)))))⟩⟩))))))))))
    refine s_nil ⟨rs ++ [⟨newN kvs r.name, r.tag, r.mark, p'⟩], k2, .val (encR r), ?_, by omega, ?_⟩
    · rw [take_snoc hx]
      exact a2.snoc ⟨rfl, rfl, rfl, tl⟩
    · rw [List.map_append]
      rfl
  subst e
  rw [List.length_map, List.take_length] at a2
  rw [List.length_map, h4] at hk'
  have he4 : names[4]? = some (names[4]'(by omega)) := List.getElem?_eq_getElem (by omega)
  generalize names[4]'(by omega) = e4 at he4
  have hrl := a2.len
  obtain ⟨r0, rr, er0⟩ : ∃ r0 rr, S.rules = r0 :: rr := by
    cases e : S.rules with
    | nil => rw [e] at h4; cases h4
    | cons a b => exact ⟨a, b, rfl⟩
  have hr0 : r0 ∈ S.rules := by rw [er0]; exact List.mem_cons_self
  obtain ⟨b0, br, eb, ht0⟩ : ∃ b r, rs = b :: r ∧ RuleT (newN kvs) r0 b := by
    rw [er0] at a2
    exact a2.head
  have hb0 : L2.atI (rs.map encR) (0 : Int) = some (encR b0) := by
    rw [eb]
    exact atI_map (f := encR) (l := b0 :: br) (i := 0) rfl
  refine s_cons (t_ifJR (fun ρ => ∃ (rs2 : List Rule) (k2 : Nat), (rs2 = rs ∨ ∃ r0 ∈ S.rules, rs2 = rs ++ [⟨e4, r0.tag, "?", .row []⟩]) ∧ k2 ≤ k' + 1 ∧ ρ = [.val (scD ns), .own (some 0) (atD k2), .val (encS S), .val (.lst (names.map .str)), .val (.dK kvs), d5, .own none (.lst (rs2.map encR)), d7, .un, .un])
    (jt_cmp (j_call D1 (hr.mono (by decide)) (a_cons (v_val (j_nm 0 rfl (a_cons (v_own 1 rfl (a_cons (v_val (j_int (a_nil ⟨_, rfl, nd1, ⟨ns, k', 2, rfl, h63, by omega, by decide, fun z hz => (v_val (j_int ⟨_, rfl, cd_eq ⟨fun h => ?_, fun h => ?_⟩⟩))⟩⟩))))))))))) fun ρ ⟨rs2, k2, hrs2, hk2, e⟩ => ?_)
  · refine s_cons (t_append 6 rfl ⟨_, rfl⟩ (j_tup (l_cons (j_ix (v_val (j_nm 3 rfl (j_int ⟨_, rfl, xd_lst (atI_map (i := 4) he4) (l_cons (j_ix (v_val (j_ix (v_own 6 rfl (j_int ⟨_, rfl, xd_lst hb0 (j_int ⟨_, rfl, xd_tup rfl (l_cons (j_str (l_cons (j_tup (l_cons (j_str (l_cons (j_tup (l_nil (l_nil (l_nil ⟨_, _, rfl, by rw [List.length_map]; omega, ?_⟩)))))))))))⟩)⟩))))))⟩)))))))
    refine s_nil ⟨rs ++ [⟨e4, r0.tag, "?", .row []⟩], k' + 1, .inr ⟨r0, hr0, rfl⟩, by omega, ?_⟩
    rw [List.map_append, ← ht0.2.1]
    rfl
  · exact s_nil ⟨rs, k' + 1, .inl rfl, by omega, rfl⟩
  subst e
  refine s_freeze 6 rfl ?_
  refine s_norm [.val (scD ns), .own (some 0) (atD k2), .val (encS S), .val (.lst (names.map .str)), .val (.dK kvs), d5, .val (.lst (rs2.map encR)), d7, .un, .un] rfl ?_
  have hne2 : S.roots.map (newN kvs) ≠ [] := fun e => ls.ne (List.map_eq_nil_iff.mp e)
  have hlen2 : (S.roots.map (newN kvs)).length ≤ 1000 := by rw [List.length_map]; omega
  have hnr : rs2 ≠ [] ∧ rs2.length ≤ 1000 := by
    rcases hrs2 with rfl | ⟨_, _, rfl⟩
    · exact ⟨fun e => by rw [e] at eb; (cases eb), by omega⟩
    · refine ⟨fun e => by simp at e, ?_⟩
      rw [List.length_append]; show rs.length + 1 ≤ 1000; omega
  refine s_cons (t_asg 8 (j_call D4 (hr.mono (by decide)) (a_cons (v_val (j_comp [("_law_name", 9)] S.roots Dt.str (fun _ => true) (fun x => .str (newN kvs x)) (i_tup (j_ix (v_val (j_nm 2 rfl (j_int ⟨_, rfl, xd_tup rfl ⟨_, rfl, ⟨rfl, rfl⟩⟩⟩))))) (by omega) (fun x hx => turn_id fun _ _ _ _ _ => b_nm 9 (fun _ _ _ _ _ => (j_ix (v_val (j_nm 4 rfl (j_nm 9 rfl ⟨_, rfl, xd_dKs (by exact hu) (tj.val ls hn5 (ls.roots x hx)) ⟨rfl, rfl⟩⟩))))) (by decide) nd) (a_cons (v_val (j_call D1 (hr.mono (by decide)) (a_cons (v_val (j_nm 0 rfl (a_cons (v_own 1 rfl (a_cons (v_val (j_int (a_nil ⟨_, rfl, nd1, ⟨ns, k2, 8, rfl, h63, by omega, by decide, fun z hz => (a_nil ⟨_, rfl, nd0, ⟨Str, S.roots.map (newN kvs), Dt.str, z, by rw [filt_true, List.map_map]; rfl, hne2, hlen2, fun rt hrt => ?_⟩⟩)⟩⟩)))))))))))) nd (blk ["_law_script", "_law_at", "_law_schema_here", "_law_names", "_law_turned_here", "_law_j", "_law_rules", "_law_rule", "_law_roots", "_law_name"] (defScope (top 70)) (by decide +kernel)))))) nd)
  refine s_norm [.val (scD ns), .own (some 0) (atD (k2 + 1)), .val (encS S), .val (.lst (names.map .str)), .val (.dK kvs), d5, .val (.lst (rs2.map encR)), d7, .val (.lst (rt.map .str)), .un] rfl ?_
  refine s_cons (t_ret (j_tup (l_cons (j_ty "tuple" M.tuple (by decide +kernel) (a_cons (v_val (j_nm 8 rfl (a_nil ⟨_, rfl, kd_tupL (l_cons (j_ty "tuple" M.tuple (by decide +kernel) (a_cons (v_val (j_call D4 (hr.mono (by decide)) (a_cons (v_val (j_nm 6 rfl (a_cons (v_val (j_call D1 (hr.mono (by decide)) (a_cons (v_val (j_nm 0 rfl (a_cons (v_own 1 rfl (a_cons (v_val (j_int (a_nil ⟨_, rfl, nd1, ⟨ns, k2 + 1, 10, rfl, h63, by omega, by decide, fun z hz => (a_nil ⟨_, rfl, nd0, ⟨Rule, rs2, encR, z, rfl, hnr.1, hnr.2, fun rl hrl => (a_nil ⟨_, rfl, kd_tupL (l_cons (j_tup (l_nil (l_nil ⟨_, rfl, ?_⟩))))⟩)⟩⟩)⟩⟩))))))))))))))))))))⟩))))))))
  have key := anew_of tj ls hn5 hn he4 a2 hrs2 hrl hrt
  exact q ⟨rt, rl⟩ (k2 + 1 + 1) key.1 key.2 (by omega)
end
end DL

set_option Elab.async false
set_option linter.all false
set_option maxRecDepth 100000
set_option autoImplicit false
set_option maxHeartbeats 4000000
/-! E42: a third schema. -/
namespace DL
open PySem PySem.Spec L2
theorem lawS_roots {S : Schema} (ls : LawS S) {rt : List Str} (h1 : ∀ x ∈ rt, x ∈ S.rules.map Rule.name) (h2 : rt ≠ []) (h3 : rt.length ≤ 5) : LawS ⟨rt, S.rules⟩ := by
  have wf := ls.wf
  exact ⟨⟨wf.few, wf.names, wf.tags, wf.pats, wf.total, by show rt.length ≤ 10; omega, wf.three⟩, ls.four, ls.depth, ls.nodes, ls.mem, h1, h2, h3⟩
theorem lawS_swap {rt : List Str} {a b : List Rule} {r r' : Rule} (ls : LawS ⟨rt, a ++ r :: b⟩) (e1 : r'.name = r.name) (e2 : r'.tag = r.tag) (e3 : r'.pat = r.pat) : LawS ⟨rt, a ++ [r'] ++ b⟩ := by
  have wf := ls.wf
  have hn : (a ++ [r'] ++ b).map Rule.name = (a ++ r :: b).map Rule.name := by
    simp [e1]
  have hc : ((a ++ [r'] ++ b).map fun r => cnt r.pat) = (a ++ r :: b).map fun r => cnt r.pat := by
    simp [e3]
  have hl : (a ++ [r'] ++ b).length = (a ++ r :: b).length := by simp
  have hm : ∀ x ∈ a ++ [r'] ++ b, ∃ y ∈ a ++ r :: b, x.tag = y.tag ∧ x.pat = y.pat := fun x hx => by
    rw [List.append_assoc] at hx
    rcases List.mem_append.mp hx with h | h
    · exact ⟨x, List.mem_append_left _ h, rfl, rfl⟩
    · rcases List.mem_cons.mp h with rfl | h
      · exact ⟨r, List.mem_append_right _ List.mem_cons_self, e2, e3⟩
      · exact ⟨x, List.mem_append_right _ (List.mem_cons_of_mem _ h), rfl, rfl⟩
  refine ⟨⟨?_, ?_, fun x hx => ?_, fun x hx => ?_, ?_, wf.roots, ?_⟩, ?_, fun x hx => ?_, fun x hx => ?_, fun x hx y hy => ?_, fun x hx => ?_, ls.ne, ls.few⟩
  · show (a ++ [r'] ++ b).length ≤ 5
    rw [hl]; exact wf.few
  · show ((a ++ [r'] ++ b).map Rule.name).Nodup
    rw [hn]; exact wf.names
  · obtain ⟨y, h1, h2, h3⟩ := hm x hx
    rw [h2]; exact wf.tags y h1
  · obtain ⟨y, h1, h2, h3⟩ := hm x hx
    rw [h3]; exact wf.pats y h1
  · show ((a ++ [r'] ++ b).map fun r => cnt r.pat).sum ≤ 6
    rw [hc]; exact wf.total
  · obtain ⟨ts, t1, t2⟩ := wf.three
    refine ⟨ts, t1, fun x hx => ?_⟩
    obtain ⟨y, h1, h2, h3⟩ := hm x hx
    rw [h2]; exact t2 y h1
  · show (a ++ [r'] ++ b).length = 4
    rw [hl]; exact ls.four
  · obtain ⟨y, h1, h2, h3⟩ := hm x hx
    rw [h3]; exact ls.depth y h1
  · obtain ⟨y, h1, h2, h3⟩ := hm x hx
    rw [h3]; exact ls.nodes y h1
  · obtain ⟨z, h1, h2, h3⟩ := hm x hx
    rw [h3] at hy
    show y ∈ (a ++ [r'] ++ b).map Rule.name
    rw [hn]; exact ls.mem z h1 y hy
  · show x ∈ (a ++ [r'] ++ b).map Rule.name
    rw [hn]; exact ls.roots x hx
theorem split_at {α : Type} {l : List α} {j : Nat} {x : α} (h : l[j]? = some x) : l = l.take j ++ x :: l.drop (j + 1) := by
  have hj := lt_of_get h
  have e := List.getElem?_eq_getElem hj
  rw [h] at e
  have e : x = l[j] := Option.some.inj e
  have := List.drop_eq_getElem_cons hj
  rw [e, ← this, List.take_append_drop]
section
variable {P : Program} {w : World} {K : PySem.W.Frag} {mg : Str → Option Value} {base : Heap}
def sThird : FS := fun as R => ∃ (ns : List Int) (k : Nat) (S : Schema), as = [.val (scD ns), .own (atD k), .val (encS S)] ∧ ns.length ≤ 63 ∧ k < 2 ^ 48 ∧ LawS S ∧ ∀ T k', LawS T → k' ≤ k + 10 → R (encS T) [atD k']
theorem d_third (M : Names mg) (D1 : DefOk P w K mg base "_law_next" 2 sNextL) (h : Has K mg "_law_third" (top 71) ["_law_script", "_law_at", "_law_schema_here"]) : DefOk P w K mg base "_law_third" 3 sThird := by
  refine def_D h ["_law_script", "_law_at", "_law_schema_here", "_law_roots", "_law_rule", "_law_j"] ⟨rfl, rfl, rfl, by decide +kernel, rfl, by decide +kernel, by decide +kernel⟩ (fun as R ⟨_, _, _, e, _⟩ => by subst e; rfl) fun f cdv A outer s H E as R hr hu nd ⟨ns, k, S, e, h63, hk, ls, q⟩ => ?_
  subst e
  have hz := szl
  have h4 := ls.four
  have hfew := ls.few
  refine s_cons (t_if (jt_cmp (j_call D1 (hr.mono (by decide)) (a_cons (v_val (j_nm 0 rfl (a_cons (v_own 1 rfl (a_cons (v_val (j_int (a_nil ⟨_, rfl, nd1, ⟨ns, k, 2, rfl, h63, by omega, by decide, fun z hz => (v_val (j_int ⟨_, rfl, cd_eq ⟨fun h => ?_, fun h => ?_⟩⟩))⟩⟩))))))))))))
  · refine s_norm [.val (scD ns), .own (some 0) (atD (k + 1)), .val (encS S), .un, .un, .un] rfl ?_
    obtain ⟨r0, rr, er⟩ : ∃ r0 rr, S.roots = r0 :: rr := by
      cases e : S.roots with
      | nil => exact absurd e ls.ne
      | cons a b => exact ⟨a, b, rfl⟩
    have hr0 : L2.atI (S.roots.map Dt.str) (0 : Int) = some (.str r0) := by
      rw [er]
      exact atI_map (f := Dt.str) (l := r0 :: rr) (i := 0) rfl
    have hfl := List.length_filter_le (fun r : Rule => !decide (r.name ∈ S.roots)) S.rules
    refine s_cons (t_asgComp 3 [("_law_rule", 4)] S.rules encR (fun r => !decide (r.name ∈ S.roots)) (fun r => .str r.name) (i_tup (j_ix (v_val (j_nm 2 rfl (j_int ⟨_, rfl, xd_tup rfl ⟨_, rfl, ⟨rfl, rfl⟩⟩⟩))))) (by omega) (fun x hx => turn_if _ fun _ _ _ _ _ => b_nm 4 ⟨fun _ _ _ _ _ => (jt_cmp (j_ix (v_val (j_nm 4 rfl (j_int ⟨_, rfl, xd_tup rfl (v_val (j_ix (v_val (j_nm 2 rfl (j_int ⟨_, rfl, xd_tup rfl ⟨_, rfl, cd_notinSt ⟨rfl, rfl⟩⟩⟩)))))⟩))))), fun _ _ _ _ _ _ => (j_ix (v_val (j_nm 4 rfl (j_int ⟨_, rfl, xd_tup rfl ⟨rfl, rfl⟩⟩)))), fun _ => rfl⟩ (by decide) nd) ?_ nd (blk ["_law_script", "_law_at", "_law_schema_here", "_law_roots", "_law_rule", "_law_j"] (defScope (top 71)) (by decide +kernel)))
    refine s_freeze 3 rfl ?_
    have ef : (S.rules.filter fun r => !decide (r.name ∈ S.roots)).map (fun r => Dt.str r.name) = ((S.rules.filter fun r => !decide (r.name ∈ S.roots)).map Rule.name).map Dt.str := by rw [List.map_map]; rfl
    rw [ef]
    have hmf : ∀ x ∈ (S.rules.filter fun r => !decide (r.name ∈ S.roots)).map Rule.name, x ∈ S.rules.map Rule.name := fun x hx => by
      obtain ⟨r, h1, rfl⟩ := List.mem_map.mp hx
      exact List.mem_map.mpr ⟨r, (List.mem_filter.mp h1).1, rfl⟩
    have hlf : ((S.rules.filter fun r => !decide (r.name ∈ S.roots)).map Rule.name).length ≤ 4 := by rw [List.length_map]; omega
    generalize (S.rules.filter fun r => !decide (r.name ∈ S.roots)).map Rule.name = rt at hmf hlf
    refine s_norm [.val (scD ns), .own (some 0) (atD (k + 1)), .val (encS S), .val (.lst (rt.map .str)), .un, .un] rfl ?_
    refine s_cons (t_ret (j_tup (l_cons (j_ty "tuple" M.tuple (by decide +kernel) (a_cons (v_val (j_bin (j_nm 3 rfl (j_lst (l_cons (j_ix (v_val (j_ix (v_val (j_nm 2 rfl (j_int ⟨_, rfl, xd_tup rfl (j_int ⟨_, rfl, xd_tup hr0 (l_nil (bd_addL (by rw [List.length_map]; show rt.length + 1 ≤ _; omega) (a_nil ⟨_, rfl, kd_tupL (l_cons (j_ix (v_val (j_nm 2 rfl (j_int ⟨_, rfl, xd_tup rfl (l_cons (j_tup (l_nil (l_nil ⟨_, rfl, ?_⟩))))⟩)))))⟩)))⟩)⟩))))))))))))))))
    have et : rt.map Dt.str ++ [Dt.str r0] = (rt ++ [r0]).map Dt.str := by rw [List.map_append]; rfl
    rw [et]
    refine q ⟨rt ++ [r0], S.rules⟩ (k + 1) (lawS_roots ls (fun x hx => ?_) (by simp) (by rw [List.length_append]; show rt.length + 1 ≤ 5; omega)) (by omega)
    rcases List.mem_append.mp hx with h | h
    · exact hmf x h
    · have : x = r0 := by simpa using h
      subst this
      exact ls.roots x (by rw [er]; exact List.mem_cons_self)
  refine s_nil ?_
  refine s_norm [.val (scD ns), .own (some 0) (atD (k + 1)), .val (encS S), .un, .un, .un] rfl ?_
  refine s_cons (t_asg 5 (j_call D1 (hr.mono (by decide)) (a_cons (v_val (j_nm 0 rfl (a_cons (v_own 1 rfl (a_cons (v_val (j_int (a_nil ⟨_, rfl, nd1, ⟨ns, k + 1, 4, rfl, h63, by omega, by decide, fun j hj => ?_⟩⟩)))))))))) nd)
  refine s_norm [.val (scD ns), .own (some 0) (atD (k + 1 + 1)), .val (encS S), .un, .un, .val (nD j)] rfl ?_
  have hjl : j < S.rules.length := by omega
  have er := List.getElem?_eq_getElem hjl
  generalize S.rules[j] = r at er
  refine s_cons (t_asg 4 (j_ix (v_val (j_ix (v_val (j_nm 2 rfl (j_int ⟨_, rfl, xd_tup rfl (j_nm 5 rfl ⟨_, rfl, xd_tup (atI_map er) ?_⟩)⟩)))))) nd)
  refine s_cons (t_asg 4 (j_tup (l_cons (j_ix (v_val (j_nm 4 rfl (j_int ⟨_, rfl, xd_tup rfl (l_cons (j_ix (v_val (j_nm 4 rfl (j_int ⟨_, rfl, xd_tup rfl (l_cons (j_ix (v_val (j_str (j_call D1 (hr.mono (by decide)) (a_cons (v_val (j_nm 0 rfl (a_cons (v_own 1 rfl (a_cons (v_val (j_int (a_nil ⟨_, rfl, nd1, ⟨ns, k + 1 + 1, 3, rfl, h63, by omega, by decide, fun y hy => ?_⟩⟩))))))))))))))⟩)))))⟩)))))) nd)
  obtain ⟨mk, emk⟩ := mark_at hy
  refine ⟨_, rfl, xd_str mark_len emk (l_cons (j_ix (v_val (j_nm 4 rfl (j_int ⟨_, rfl, xd_tup rfl (l_nil ?_)⟩)))))⟩
  refine s_norm [.val (scD ns), .own (some 0) (atD (k + 1 + 1 + 1)), .val (encS S), .un, .val (encR ⟨r.name, r.tag, ⟨#[mk]⟩, r.pat⟩), .val (nD j)] rfl ?_
  have hcl : ∀ lo hi, (cutD (S.rules.map encR) lo hi).length ≤ 4 := fun lo hi => by
    unfold cutD
    rw [List.length_take, List.length_drop, List.length_map]
    omega
  refine s_cons (t_ret (j_tup (l_cons (j_ix (v_val (j_nm 2 rfl (j_int ⟨_, rfl, xd_tup rfl (l_cons (j_bin (j_bin (j_slice (v_val (j_ix (v_val (j_nm 2 rfl (j_int ⟨_, rfl, xd_tup rfl (o_none (o_some (j_nm 5 rfl ⟨_, rfl, ⟨_, rfl, sd_tup (j_tup (l_cons (j_nm 4 rfl (l_nil (bd_addT ?_ (j_slice (v_val (j_ix (v_val (j_nm 2 rfl (j_int ⟨_, rfl, xd_tup rfl (o_some (j_bin (j_nm 5 rfl (j_int (bd_add ⟨_, rfl, (o_none ⟨_, rfl, sd_tup (bd_addT ?_ (l_cons (j_tup (l_nil (l_nil ⟨_, rfl, ?_⟩)))))⟩)⟩)))))⟩)))))))))))⟩⟩)))⟩)))))))))⟩)))))))
  · have := hcl none (some (j : Int))
    show _ + 1 ≤ _
    omega
  · have := hcl none (some (j : Int))
    have := hcl (some ((j : Int) + 1)) none
    rw [List.length_append]
    show _ + 1 + _ ≤ _
    omega
  have e1 : (j : Int) + 1 = ((j + 1 : Nat) : Int) := by omega
  rw [e1, (cut_map encR S.rules j).2, (cut_map encR S.rules (j + 1)).1]
  have es := split_at er
  have ls' : LawS ⟨S.roots, S.rules.take j ++ r :: S.rules.drop (j + 1)⟩ := by
    rw [← es]; exact ls
  have := q ⟨S.roots, S.rules.take j ++ [⟨r.name, r.tag, ⟨#[mk]⟩, r.pat⟩] ++ S.rules.drop (j + 1)⟩ (k + 1 + 1 + 1) (lawS_swap ls' rfl rfl rfl) (by omega)
  unfold encS at this
  rw [List.map_append, List.map_append] at this
  exact this
end
end DL

set_option Elab.async false
set_option linter.all false
set_option maxRecDepth 100000
set_option autoImplicit false
set_option maxHeartbeats 4000000
/-! E43: a row of kids' names drawn by a pattern. -/
namespace DL
open PySem PySem.Spec L2
mutual
/-- at most so many draws -/
def wt : Pat → Nat
  | .one _ => 1
  | .row ps => 1 + wts ps
  | .any ps => 1 + ps.length * wts ps
  | .may p => 1 + 2 * wt p
  | .many p => 1 + 2 * wt p
  | .some p => 1 + 2 * wt p
def wts : List Pat → Nat
  | [] => 0
  | p :: ps => wt p + wts ps
end
mutual
/-- at most so many names -/
def ln : Pat → Nat
  | .one _ => 1
  | .row ps => lns ps
  | .any ps => lns ps
  | .may p => 2 * ln p
  | .many p => 2 * ln p
  | .some p => 2 * ln p
def lns : List Pat → Nat
  | [] => 0
  | p :: ps => ln p + lns ps
end
theorem wts_app : ∀ a b : List Pat, wts (a ++ b) = wts a + wts b
  | [], b => by simp [wts]
  | p :: a, b => by rw [List.cons_append, wts, wts, wts_app a b]; omega
theorem lns_app : ∀ a b : List Pat, lns (a ++ b) = lns a + lns b
  | [], b => by simp [lns]
  | p :: a, b => by rw [List.cons_append, lns, lns, lns_app a b]; omega
theorem wts_take (ps : List Pat) (i : Nat) : wts (ps.take i) ≤ wts ps := by
  have := wts_app (ps.take i) (ps.drop i)
  rw [List.take_append_drop] at this
  omega
theorem lns_take (ps : List Pat) (i : Nat) : lns (ps.take i) ≤ lns ps := by
  have := lns_app (ps.take i) (ps.drop i)
  rw [List.take_append_drop] at this
  omega
theorem wts_snoc {ps : List Pat} {i : Nat} {x : Pat} (h : ps[i]? = some x) : wts (ps.take (i + 1)) = wts (ps.take i) + wt x := by
  rw [take_snoc h, wts_app, wts, wts]; omega
theorem lns_snoc {ps : List Pat} {i : Nat} {x : Pat} (h : ps[i]? = some x) : lns (ps.take (i + 1)) = lns (ps.take i) + ln x := by
  rw [take_snoc h, lns_app, lns, lns]; omega
theorem wt_mem {ps : List Pat} {x : Pat} (h : x ∈ ps) : wt x ≤ wts ps := by
  obtain ⟨i, hi⟩ := List.getElem?_of_mem h
  have := wts_snoc hi; have := wts_take ps (i + 1); omega
theorem ln_mem {ps : List Pat} {x : Pat} (h : x ∈ ps) : ln x ≤ lns ps := by
  obtain ⟨i, hi⟩ := List.getElem?_of_mem h
  have := lns_snoc hi; have := lns_take ps (i + 1); omega
theorem wts_rep (p : Pat) : ∀ n, wts (List.replicate n p) = n * wt p
  | 0 => by simp [wts]
  | n + 1 => by rw [List.replicate_succ, wts, wts_rep p n, Nat.succ_mul]; omega
theorem lns_rep (p : Pat) : ∀ n, lns (List.replicate n p) = n * ln p
  | 0 => by simp [lns]
  | n + 1 => by rw [List.replicate_succ, lns, lns_rep p n, Nat.succ_mul]; omega
theorem len_nodes : ∀ ps : List Pat, ps.length ≤ nodess ps
  | [] => by simp
  | p :: ps => by
    have := len_nodes ps
    have h1 : 1 ≤ p.nodes := by cases p <;> unfold Pat.nodes <;> omega
    rw [nodess, List.length_cons]; omega
theorem wt_le (p : Pat) : ∀ n, p.depth ≤ n → p.nodes ≤ 19 → wt p ≤ p.nodes * 20 ^ n := by
  have sum : ∀ (n : Nat) (ps : List Pat), (∀ p ∈ ps, wt p ≤ p.nodes * 20 ^ n) → wts ps ≤ nodess ps * 20 ^ n := by
    intro n ps
    induction ps with
    | nil => intro _; simp [wts]
    | cons p ps ih =>
      intro h
      rw [wts, nodess, Nat.add_mul]
      have := h p List.mem_cons_self
      have := ih fun q hq => h q (List.mem_cons_of_mem _ hq)
      omega
  have pw : ∀ n : Nat, 1 ≤ 20 ^ n := fun n => Nat.pos_of_ne_zero (by simp)
  refine Pat.ind (C := fun p => ∀ n, p.depth ≤ n → p.nodes ≤ 19 → wt p ≤ p.nodes * 20 ^ n) ?_ ?_ ?_ ?_ ?_ ?_ p
  · intro x n _ _
    rw [wt, Pat.nodes]
    have := pw n
    omega
  · intro ps h n hd hn
    rw [Pat.depth] at hd
    rw [Pat.nodes] at hn
    rw [wt, Pat.nodes]
    obtain ⟨m, rfl⟩ : ∃ m, n = m + 1 := ⟨n - 1, by omega⟩
    have := sum m ps fun q hq => h q hq m (by have := depth_mem hq; omega) (by have := nodes_mem hq; omega)
    have := pw m
    rw [Nat.pow_succ, Nat.add_mul]
    have : nodess ps * 20 ^ m ≤ nodess ps * (20 ^ m * 20) := Nat.mul_le_mul_left _ (by omega)
    omega
  · intro ps h n hd hn
    rw [Pat.depth] at hd
    rw [Pat.nodes] at hn
    rw [wt, Pat.nodes]
    obtain ⟨m, rfl⟩ : ∃ m, n = m + 1 := ⟨n - 1, by omega⟩
    have h1 := sum m ps fun q hq => h q hq m (by have := depth_mem hq; omega) (by have := nodes_mem hq; omega)
    have := pw m
    have hl := len_nodes ps
    have h2 : ps.length * wts ps ≤ 20 * (nodess ps * 20 ^ m) := Nat.mul_le_mul (by omega) h1
    rw [Nat.pow_succ, Nat.add_mul]
    have e : nodess ps * (20 ^ m * 20) = 20 * (nodess ps * 20 ^ m) := by rw [← Nat.mul_assoc, Nat.mul_comm]
    omega
  all_goals
    intro p h n hd hn
    rw [Pat.depth] at hd
    rw [Pat.nodes] at hn
    rw [wt, Pat.nodes]
    obtain ⟨m, rfl⟩ : ∃ m, n = m + 1 := ⟨n - 1, by omega⟩
    have h1 := h m (by omega) (by omega)
    have := pw m
    rw [Nat.pow_succ, Nat.add_mul]
    have e : p.nodes * (20 ^ m * 20) = 20 * (p.nodes * 20 ^ m) := by rw [← Nat.mul_assoc, Nat.mul_comm]
    omega
theorem ln_le (p : Pat) : ∀ n, p.depth ≤ n → ln p ≤ cnt p * 2 ^ n := by
  have sum : ∀ (n : Nat) (ps : List Pat), (∀ p ∈ ps, ln p ≤ cnt p * 2 ^ n) → lns ps ≤ cnts ps * 2 ^ n := by
    intro n ps
    induction ps with
    | nil => intro _; simp [lns]
    | cons p ps ih =>
      intro h
      rw [lns, cnts_cons, Nat.add_mul]
      have := h p List.mem_cons_self
      have := ih fun q hq => h q (List.mem_cons_of_mem _ hq)
      omega
  have pw : ∀ n : Nat, 1 ≤ 2 ^ n := fun n => Nat.pos_of_ne_zero (by simp)
  refine Pat.ind (C := fun p => ∀ n, p.depth ≤ n → ln p ≤ cnt p * 2 ^ n) ?_ ?_ ?_ ?_ ?_ ?_ p
  · intro x n _
    rw [ln, cnt_one]
    have := pw n
    omega
  · intro ps h n hd
    rw [Pat.depth] at hd
    rw [ln, cnt_row]
    exact sum n ps fun q hq => h q hq n (by have := depth_mem hq; omega)
  · intro ps h n hd
    rw [Pat.depth] at hd
    rw [ln, cnt_any]
    exact sum n ps fun q hq => h q hq n (by have := depth_mem hq; omega)
  · intro p h n hd
    rw [Pat.depth] at hd
    rw [ln, cnt_may]
    obtain ⟨m, rfl⟩ : ∃ m, n = m + 1 := ⟨n - 1, by omega⟩
    have h1 := h m (by omega)
    rw [Nat.pow_succ]
    have e : cnt p * (2 ^ m * 2) = 2 * (cnt p * 2 ^ m) := by rw [← Nat.mul_assoc, Nat.mul_comm]
    omega
  · intro p h n hd
    rw [Pat.depth] at hd
    rw [ln, cnt_many]
    obtain ⟨m, rfl⟩ : ∃ m, n = m + 1 := ⟨n - 1, by omega⟩
    have h1 := h m (by omega)
    rw [Nat.pow_succ]
    have e : cnt p * (2 ^ m * 2) = 2 * (cnt p * 2 ^ m) := by rw [← Nat.mul_assoc, Nat.mul_comm]
    omega
  · intro p h n hd
    rw [Pat.depth] at hd
    rw [ln, cnt_some]
    obtain ⟨m, rfl⟩ : ∃ m, n = m + 1 := ⟨n - 1, by omega⟩
    have h1 := h m (by omega)
    rw [Nat.pow_succ]
    have e : cnt p * (2 ^ m * 2) = 2 * (cnt p * 2 ^ m) := by rw [← Nat.mul_assoc, Nat.mul_comm]
    omega
theorem rep_flat (d : Dt) : ∀ n, (List.replicate n [d]).flatten = List.replicate n d
  | 0 => rfl
  | n + 1 => by rw [List.replicate_succ, List.flatten_cons, rep_flat d n, List.replicate_succ]; rfl
theorem rep_enc (p : Pat) (n : Nat) : (List.replicate ((n : Nat) : Int).toNat [encP p]).flatten = (List.replicate n p).map encP := by
  rw [rep_flat, List.map_replicate]; simp
section
variable {X : Cx} {ρ : Env} {pos : Pos} {x : Str} {tg : Expr} {R : List Dt → Env → Prop}
/-- what a name holds: a list or a tuple -/
theorem i_tl (i : Nat) {d : Dt} {ds : List Dt} (hD : d = .tup ds ∨ d = .lst ds) (h : ρ[i]? = some (.val d)) (q : R ds ρ) (hN : X.N[i]? = some x := by rfl) (hv : Vis X.env.scope x := by first | exact Or.inl rfl | exact Or.inr (Or.inl rfl) | exact Or.inr (Or.inr rfl))
    (hd : (x == ("__debug__" : Str)) = false := by decide) (hcd : (x == ("__classdict__" : Str)) = false := by decide) : JI X tg (.Name x pos) ρ R := by
  rcases hD with rfl | rfl
  · exact i_tup (j_nm i h ⟨_, rfl, q⟩ hN hv hd hcd)
  · exact i_lst (j_nm i h ⟨_, rfl, q⟩ hN hv hd hcd)
end
section
variable {P : Program} {w : World} {K : PySem.W.Frag} {mg : Str → Option Value} {base : Heap}
def sLRow (n : Nat) : FS := fun as R => ∃ (ns : List Int) (k : Nat) (p : Pat) (kvs : List (Key × Dt)), as = [.val (scD ns), .own (atD k), .val (encP p), .own (.dK kvs)] ∧ ns.length ≤ 63 ∧ p.depth ≤ n ∧ p.nodes ≤ 1000 ∧ k + wt p < 2 ^ 49 ∧ ln p ≤ 1000 ∧
  ∀ k', k' ≤ k + wt p → R .non [atD k', .dK kvs] ∧ ∀ row : List Str, (∀ x ∈ row, (valD kvs (.inr x)).isSome = true) → row.length ≤ ln p → R (.lst (row.map .str)) [atD k', .dK kvs]
theorem d_lrow (M : Names mg) (D1 : DefOk P w K mg base "_law_next" 2 sNextL) (h : Has K mg "_law_row" (top 72) ["_law_script", "_law_at", "_law_pattern_here", "_law_known"]) : ∀ n, DefOk P w K mg base "_law_row" (n + 3) (sLRow n)
  | 0 => def_D h ["_law_script", "_law_at", "_law_pattern_here", "_law_known", "_law_first", "_law_k", "_law_row_here", "_law_parts", "_law_told", "_law_part"] ⟨rfl, rfl, rfl, by decide +kernel, rfl, by decide +kernel, by decide +kernel⟩ (fun as R ⟨_, _, _, _, e, _⟩ => by subst e; rfl) fun f cdv A outer s H E as R hr hu nd ⟨_, _, p, _, _, _, hd, _⟩ => absurd (depth_pos p) (by omega)
  | n + 1 => by
    have D := d_lrow M D1 h n
    refine def_D (k := n + 3) h ["_law_script", "_law_at", "_law_pattern_here", "_law_known", "_law_first", "_law_k", "_law_row_here", "_law_parts", "_law_told", "_law_part"] ⟨rfl, rfl, rfl, by decide +kernel, rfl, by decide +kernel, by decide +kernel⟩ (fun as R ⟨_, _, _, _, e, _⟩ => by subst e; rfl) fun fa cdv A outer s H E as R hr hu nd ⟨ns, k, p, kvs, e, h63, hd, hn, hk, hln, q⟩ => ?_
    subst e
    have hz := szl
    rw [encP_eq]
    refine s_cons (t_ifB _ (jt_cmp (j_ix (v_val (j_nm 2 rfl (j_int ⟨_, rfl, xd_tup rfl (v_val (j_str ⟨_, rfl, cd_eqS ⟨rfl, rfl⟩⟩))⟩))))) (fun h => ?_) (fun h => ?_))
    · obtain ⟨x, rfl⟩ := k_one (of_decide_eq_true h)
      rw [ln] at q
      refine s_cons (t_ifB _ (jt_cmp (j_ix (v_val (j_nm 2 rfl (j_int ⟨_, rfl, xd_tup rfl (v_own 3 rfl ⟨_, rfl, cd_inKs hu ⟨rfl, rfl⟩⟩)⟩))))) (fun h => ?_) (fun h => ?_))
      · refine s_cons (t_ret (j_lst (l_cons (j_ix (v_val (j_nm 2 rfl (j_int ⟨_, rfl, xd_tup rfl (l_nil ⟨_, rfl, (q k (by omega)).2 [x] (fun y hy => ?_) (Nat.le_refl _)⟩)⟩)))))))
        have : y = x := by simpa using hy
        subst this
        exact h
      exact s_nil (s_cons (t_ret (j_non ⟨_, rfl, (q k (by omega)).1⟩)))
    have hone : kind p ≠ "one" := of_decide_eq_false h
    refine s_nil ?_
    refine s_cons (t_ifB _ (jt_cmp (j_ix (v_val (j_nm 2 rfl (j_int ⟨_, rfl, xd_tup rfl (v_val (j_str ⟨_, rfl, cd_eqS ⟨rfl, rfl⟩⟩))⟩))))) (fun h => ?_) (fun h => ?_))
    · obtain ⟨ps, rfl⟩ := k_any (of_decide_eq_true h)
      rw [Pat.depth] at hd
      rw [Pat.nodes] at hn
      rw [wt] at hk q
      rw [ln] at hln q
      have hpl := len_nodes ps
      show JS _ _ [_, _, .val (.tup [.str "any", .tup (encPs ps)]), _, _, _, _, _, _, _] _
      rw [encPs_eq]
      refine s_cons (t_asg 4 (j_call D1 (hr.mono (by omega)) (a_cons (v_val (j_nm 0 rfl (a_cons (v_own 1 rfl (a_cons (v_val (j_int (a_nil ⟨_, rfl, nd1, ⟨ns, k, 2, rfl, h63, by omega, by decide, fun z hz => ?_⟩⟩)))))))))) nd)
      refine s_norm [.val (scD ns), .own (some 0) (atD (k + 1)), .val (.tup [.str "any", .tup (ps.map encP)]), .own (some 1) (.dK kvs), .val (nD z), .un, .un, .un, .un, .un] rfl ?_
      refine s_cons (t_for (i_rng1 M.range (j_blt "len" M.len (by decide +kernel) (a_cons (v_val (j_ix (v_val (j_nm 2 rfl (j_int ⟨_, rfl, xd_tup rfl (a_nil ⟨_, rfl, kd_lenT ⟨_, rfl, ⟨by omega, by rw [List.length_map]; omega⟩, ⟨fun i ρ => ∃ (k' : Nat) (d5 d6 : Slot), k' ≤ k + 1 + i * wts ps ∧ ρ = [.val (scD ns), .own (some 0) (atD k'), .val (.tup [.str "any", .tup (ps.map encP)]), .own (some 1) (.dK kvs), .val (nD z), d5, d6, .un, .un, .un], ⟨k + 1, _, _, by omega, rfl⟩, fun i d ρ hd' ⟨k', _, _, hk', e⟩ => ?_, fun ρ ⟨k', _, _, hk', e⟩ => ?_⟩⟩⟩)⟩)))))))))
      · subst e
        obtain ⟨hi, rfl⟩ := rget hd'
        rw [List.length_map] at hi
        have hi : i < ps.length := by omega
        have hp : (0 : Int) + (i : Int) * 1 = (i : Int) := by omega
        rw [hp]
        obtain ⟨y, hy, ey⟩ := mod_nat ((z : Int) + (i : Int)) (show 0 < ps.length by omega)
        have ex : ps[y]? = some ps[y] := List.getElem?_eq_getElem hy
        have hm : ps[y] ∈ ps := List.getElem_mem hy
        generalize ps[y] = x at ex hm
        have e1 : L2.atI (ps.map encP) (((z : Int) + (i : Int)) % (((ps.map encP).length : Nat) : Int)) = some (encP x) := by
          rw [List.length_map, ey]; exact atI_map ex
        have hxd := depth_mem hm
        have hxn := nodes_mem hm
        have hxw := wt_mem hm
        have hxl := ln_mem hm
        have hmul : (i + 1) * wts ps ≤ ps.length * wts ps := Nat.mul_le_mul_right _ (by omega)
        have hmul2 : (i + 1) * wts ps = i * wts ps + wts ps := by rw [Nat.succ_mul]
        refine g_nm 5 ?_ nd
        refine s_cons (t_asg 6 (j_call D (hr.mono (by omega)) (a_cons (v_val (j_nm 0 rfl (a_cons (v_own 1 rfl (a_cons (v_val (j_ix (v_val (j_ix (v_val (j_nm 2 rfl (j_int ⟨_, rfl, xd_tup rfl (j_bin (j_bin (j_nm 4 rfl (j_nm 5 rfl (bd_add (j_blt "len" M.len (by decide +kernel) (a_cons (v_val (j_ix (v_val (j_nm 2 rfl (j_int ⟨_, rfl, xd_tup rfl (a_nil ⟨_, rfl, kd_lenT (bd_mod (by rw [List.length_map]; omega) ⟨_, rfl, xd_tup e1 (a_cons (v_own 3 rfl (a_nil ⟨_, rfl, nd2, ⟨ns, k', x, kvs, rfl, h63, by omega, by omega, by omega, by omega, fun k2 hk2 => ⟨?_, fun row hrow hrl => ?_⟩⟩⟩)))⟩)⟩)⟩))))))))))))⟩)))))))))))))) nd)
        · refine s_norm [.val (scD ns), .own (some 0) (atD k2), .val (.tup [.str "any", .tup (ps.map encP)]), .own (some 1) (.dK kvs), .val (nD z), .val (nD i), .val .non, .un, .un, .un] rfl ?_
          refine s_cons (t_ifB _ (jt_cmp (j_nm 6 rfl (v_val (j_non ⟨_, rfl, cd_notN ⟨rfl, rfl⟩⟩)))) (fun h => absurd h (by decide)) (fun h => s_nil ?_))
          exact s_nil ⟨k2, _, _, by omega, rfl⟩
        · refine s_norm [.val (scD ns), .own (some 0) (atD k2), .val (.tup [.str "any", .tup (ps.map encP)]), .own (some 1) (.dK kvs), .val (nD z), .val (nD i), .val (.lst (row.map .str)), .un, .un, .un] rfl ?_
          refine s_cons (t_ifB _ (jt_cmp (j_nm 6 rfl (v_val (j_non ⟨_, rfl, cd_notN ⟨rfl, rfl⟩⟩)))) (fun h => ?_) (fun h => absurd h (by simp [isNon])))
          exact s_cons (t_ret (j_nm 6 rfl ⟨_, rfl, (q k2 (by omega)).2 row hrow (by omega)⟩))
      · subst e
        rw [rng_len, List.length_map] at hk'
        have em : ((ps.length : Nat) : Int).toNat = ps.length := by omega
        rw [em] at hk'
        exact s_cons (t_ret (j_non ⟨_, rfl, (q k' (by omega)).1⟩))
    have hany : kind p ≠ "any" := of_decide_eq_false h
    refine s_nil ?_
    refine s_cons (t_asg 7 (j_ix (v_val (j_nm 2 rfl (j_int ⟨_, rfl, xd_tup rfl ?_⟩)))) nd)
    refine s_norm [.val (scD ns), .own (some 0) (atD k), .val (.tup [.str (kind p), argP p]), .own (some 1) (.dK kvs), .un, .un, .un, .val (argP p), .un, .un] rfl ?_
    let P1 : Dt → Prop := fun d => (∃ ps, p = .row ps ∧ d = .tup (ps.map encP)) ∨ (∃ p2 z, (p = .may p2 ∨ p = .many p2) ∧ z ≤ 2 ∧ d = .lst ((List.replicate z p2).map encP)) ∨ (∃ p2, p = .some p2 ∧ d = encP p2)
    refine s_cons (t_ifJ (fun ρ => ∃ (d : Dt) (k1 : Nat), P1 d ∧ k ≤ k1 ∧ k1 ≤ k + 1 ∧ (kind p = "some" → k1 = k) ∧ ρ = [.val (scD ns), .own (some 0) (atD k1), .val (.tup [.str (kind p), argP p]), .own (some 1) (.dK kvs), .un, .un, .un, .val d, .un, .un]) _ (jtb_bool (jwb_or (jt_cmp (j_ix (v_val (j_nm 2 rfl (j_int ⟨_, rfl, xd_tup rfl (v_val (j_str ⟨_, rfl, cd_eqS ⟨rfl, rfl⟩⟩))⟩))))) fun h => (jwb_or1 (jt_cmp (j_ix (v_val (j_nm 2 rfl (j_int ⟨_, rfl, xd_tup rfl (v_val (j_str ⟨_, rfl, cd_eqS ⟨rfl, rfl⟩⟩))⟩))))))) ⟨rfl, rfl⟩) (fun h => ?_) (fun h => ?_) fun ρ ⟨d1, k1, hp1, hk0, hk1, hks, e⟩ => ?_)
    · rw [Bool.or_eq_true] at h
      obtain ⟨p2, e1, hp2, hnw, hns⟩ : ∃ p2, argP p = encP p2 ∧ (p = .may p2 ∨ p = .many p2) ∧ 1 ≤ wt p ∧ kind p ≠ "some" := by
        rcases h with h | h
        · obtain ⟨p2, rfl⟩ := k_may (of_decide_eq_true h)
          exact ⟨p2, rfl, .inl rfl, by rw [wt]; omega, by simp only [kind]; decide +kernel⟩
        · obtain ⟨p2, rfl⟩ := k_many (of_decide_eq_true h)
          exact ⟨p2, rfl, .inr rfl, by rw [wt]; omega, by simp only [kind]; decide +kernel⟩
      rw [e1]
      refine s_cons (t_asg 7 (j_bin (j_lst (l_cons (j_ix (v_val (j_nm 2 rfl (j_int ⟨_, rfl, xd_tup rfl (l_nil (j_call D1 (hr.mono (by omega)) (a_cons (v_val (j_nm 0 rfl (a_cons (v_own 1 rfl (a_cons (v_val (j_int (a_nil ⟨_, rfl, nd1, ⟨ns, k, 3, rfl, h63, by omega, by decide, fun z hz => (bd_repL (by omega) (by omega) (by show 1 * _ ≤ _; omega) ?_)⟩⟩)))))))))))⟩))))))) nd)
      rw [rep_enc]
      exact s_nil ⟨_, k + 1, .inr (.inl ⟨p2, z, hp2, by omega, rfl⟩), by omega, by omega, fun h => absurd h hns, rfl⟩
    · rw [Bool.or_eq_false_iff] at h
      have h1 := of_decide_eq_false h.1
      have h2 := of_decide_eq_false h.2
      refine s_nil ⟨argP p, k, ?_, by omega, by omega, fun _ => rfl, rfl⟩
      cases p with
      | one x => exact absurd rfl hone
      | row ps => exact .inl ⟨ps, rfl, by rw [argP, encPs_eq]⟩
      | any ps => exact absurd rfl hany
      | may p => exact absurd rfl h1
      | many p => exact absurd rfl h2
      | some p => exact .inr (.inr ⟨p, rfl, rfl⟩)
    subst e
    refine s_cons (t_ifJ (fun ρ => ∃ (d : Dt), P1 d ∧ ρ = [.val (scD ns), .own (some 0) (atD k1), .val (.tup [.str (kind p), argP p]), .own (some 1) (.dK kvs), .un, .un, .un, .val d, .un, .un]) _ (jt_cmp (j_ix (v_val (j_nm 2 rfl (j_int ⟨_, rfl, xd_tup rfl (v_val (j_str ⟨_, rfl, cd_eqS ⟨rfl, rfl⟩⟩))⟩))))) (fun h => ?_) (fun h => s_nil ⟨d1, hp1, rfl⟩) fun ρ ⟨d2, hp2, e⟩ => ?_)
    · obtain ⟨p3, rfl⟩ := k_may (of_decide_eq_true h)
      obtain ⟨p2, z, h1, h2, rfl⟩ : ∃ p2 z, (Pat.may p3 = .may p2 ∨ Pat.may p3 = .many p2) ∧ z ≤ 2 ∧ d1 = .lst ((List.replicate z p2).map encP) := by
        rcases hp1 with ⟨ps, h1, _⟩ | q | ⟨p2, h1, _⟩
        · cases h1
        · exact q
        · cases h1
      refine s_cons (t_asg 7 (j_slice (v_val (j_nm 7 rfl (o_none (o_some (j_int ⟨_, rfl, ⟨_, rfl, sd_lst ?_⟩⟩)))))) nd)
      have e1 : (1 : Int) = ((1 : Nat) : Int) := rfl
      rw [e1, (cut_map encP (List.replicate z p2) 1).2, List.take_replicate]
      exact s_nil ⟨_, .inr (.inl ⟨p2, min 1 z, h1, by omega, rfl⟩), rfl⟩
    subst e
    refine s_cons (t_ifJ (fun ρ => ∃ (d : Dt) (qs : List Pat) (k2 : Nat), (d = .tup (qs.map encP) ∨ d = .lst (qs.map encP)) ∧ k2 + wts qs ≤ k + wt p ∧ lns qs ≤ ln p ∧ (∀ x ∈ qs, x.depth ≤ n ∧ x.nodes ≤ 1000) ∧ ρ = [.val (scD ns), .own (some 0) (atD k2), .val (.tup [.str (kind p), argP p]), .own (some 1) (.dK kvs), .un, .un, .un, .val d, .un, .un]) _ (jt_cmp (j_ix (v_val (j_nm 2 rfl (j_int ⟨_, rfl, xd_tup rfl (v_val (j_str ⟨_, rfl, cd_eqS ⟨rfl, rfl⟩⟩))⟩))))) (fun h => ?_) (fun h => ?_) fun ρ ⟨d3, qs, k2, hD, hk2, hl2, hq, e⟩ => ?_)
    · have hkk : k1 = k := hks (of_decide_eq_true h)
      obtain ⟨p2, rfl⟩ := k_some (of_decide_eq_true h)
      clear hks
      rw [Pat.depth] at hd
      rw [Pat.nodes] at hn
      rw [wt] at hk ⊢
      rw [ln]
      have hb : ∀ y : Nat, y < 2 → (1 : Int) + (y : Int) = ((1 + y : Nat) : Int) := fun y _ => by omega
      refine s_cons (t_asg 7 (j_bin (j_lst (l_cons (j_ix (v_val (j_nm 2 rfl (j_int ⟨_, rfl, xd_tup rfl (l_nil (j_bin (j_int (j_call D1 (hr.mono (by omega)) (a_cons (v_val (j_nm 0 rfl (a_cons (v_own 1 rfl (a_cons (v_val (j_int (a_nil ⟨_, rfl, nd1, ⟨ns, k1, 2, rfl, h63, by omega, by decide, fun z hz => (bd_add (bd_repL (by omega) (by omega) (by show 1 * _ ≤ _; omega) ?_))⟩⟩)))))))))))))⟩))))))) nd)
      rw [hb z hz, show argP (.some p2) = encP p2 from rfl, rep_enc]
      have hmw : (1 + z) * wt p2 ≤ 2 * wt p2 := Nat.mul_le_mul_right _ (by omega)
      have hml : (1 + z) * ln p2 ≤ 2 * ln p2 := Nat.mul_le_mul_right _ (by omega)
      refine s_nil ⟨_, List.replicate (1 + z) p2, k1 + 1, .inr rfl, by rw [wts_rep]; omega, by rw [lns_rep]; omega, fun x hx => ?_, rfl⟩
      rw [(List.mem_replicate.mp hx).2]
      omega
    · have hns := of_decide_eq_false h
      rcases hp2 with ⟨ps, rfl, rfl⟩ | ⟨p2, z, h1, h2, rfl⟩ | ⟨p2, rfl, _⟩
      · rw [wt] at hk ⊢
        rw [ln]
        rw [Pat.depth] at hd
        rw [Pat.nodes] at hn
        refine s_nil ⟨_, ps, k1, .inl rfl, by omega, by omega, fun x hx => ?_, rfl⟩
        have := depth_mem hx; have := nodes_mem hx; omega
      · have hb : p.depth = p2.depth + 1 ∧ p.nodes = p2.nodes + 1 ∧ wt p = 1 + 2 * wt p2 ∧ ln p = 2 * ln p2 := by
          rcases h1 with rfl | rfl
          · exact ⟨by rw [Pat.depth], by rw [Pat.nodes], by rw [wt], by rw [ln]⟩
          · exact ⟨by rw [Pat.depth], by rw [Pat.nodes], by rw [wt], by rw [ln]⟩
        obtain ⟨b1, b2, b3, b4⟩ := hb
        have hmw : z * wt p2 ≤ 2 * wt p2 := Nat.mul_le_mul_right _ (by omega)
        have hml : z * ln p2 ≤ 2 * ln p2 := Nat.mul_le_mul_right _ (by omega)
        refine s_nil ⟨_, List.replicate z p2, k1, .inr rfl, by rw [wts_rep]; omega, by rw [lns_rep]; omega, fun x hx => ?_, rfl⟩
        rw [(List.mem_replicate.mp hx).2]
        omega
      · exact absurd rfl hns
    subst e
    refine s_cons (t_asg 8 (j_lst (l_nil ?_)) nd)
    refine s_cons (t_for (i_tl 7 hD rfl ⟨fun i ρ => ∃ (row : List Str) (k' : Nat) (d6 d9 : Slot), (∀ x ∈ row, (valD kvs (.inr x)).isSome = true) ∧ row.length ≤ lns (qs.take i) ∧ k' ≤ k2 + wts (qs.take i) ∧
      ρ = [.val (scD ns), .own (some 0) (atD k'), .val (.tup [.str (kind p), argP p]), .own (some 1) (.dK kvs), .un, .un, d6, .val d3, .val (.lst (row.map .str)), d9], ⟨([] : List Str), k2, _, _, (fun x hx => absurd hx (by simp)), Nat.zero_le _, by omega, rfl⟩, fun i d ρ hd' ⟨row, k', _, _, hrow, hrl, hk', e⟩ => ?_, fun ρ ⟨row, k', _, _, hrow, hrl, hk', e⟩ => ?_⟩))
    · subst e
      obtain ⟨x, hx, rfl⟩ := mget hd'
      have hm := List.mem_of_getElem? hx
      obtain ⟨hxd, hxn⟩ := hq x hm
      have w1 := wts_snoc hx
      have w2 := wts_take qs (i + 1)
      have l1 := lns_snoc hx
      have l2 := lns_take qs (i + 1)
      refine g_nm 9 ?_ nd
      refine s_cons (t_asg 6 (j_call D (hr.mono (by omega)) (a_cons (v_val (j_nm 0 rfl (a_cons (v_own 1 rfl (a_cons (v_val (j_nm 9 rfl (a_cons (v_own 3 rfl (a_nil ⟨_, rfl, nd2, ⟨ns, k', x, kvs, rfl, h63, hxd, hxn, by omega, by omega, fun k3 hk3 => ⟨?_, fun row2 hrow2 hrl2 => ?_⟩⟩⟩)))))))))))) nd)
      · refine s_norm [.val (scD ns), .own (some 0) (atD k3), .val (.tup [.str (kind p), argP p]), .own (some 1) (.dK kvs), .un, .un, .val .non, .val d3, .val (.lst (row.map .str)), .val (encP x)] rfl ?_
        refine s_cons (t_ifB _ (jtb_bool (jwb_and (jt_cmp (j_nm 6 rfl (v_val (j_non ⟨_, rfl, cd_isN ⟨rfl, rfl⟩⟩)))) fun h => (jwb_and1 (jtb_bool (jwb_or (jt_cmp (j_ix (v_val (j_nm 2 rfl (j_int ⟨_, rfl, xd_tup rfl (v_val (j_str ⟨_, rfl, cd_eqS ⟨rfl, rfl⟩⟩))⟩))))) fun h => (jwb_or1 (jt_cmp (j_ix (v_val (j_nm 2 rfl (j_int ⟨_, rfl, xd_tup rfl (v_val (j_str ⟨_, rfl, cd_eqS ⟨rfl, rfl⟩⟩))⟩))))))) ⟨rfl, rfl⟩))) ⟨rfl, rfl⟩) (fun h => ?_) (fun h => ?_))
        · exact s_cons (t_ret (j_non ⟨_, rfl, (q k3 (by omega)).1⟩))
        refine s_nil ?_
        refine s_cons (t_ifB _ (jt_cmp (j_nm 6 rfl (v_val (j_non ⟨_, rfl, cd_notN ⟨rfl, rfl⟩⟩)))) (fun h => absurd h (by decide)) (fun h => s_nil ?_))
        exact s_nil ⟨row, k3, _, _, hrow, by omega, by omega, rfl⟩
      · refine s_norm [.val (scD ns), .own (some 0) (atD k3), .val (.tup [.str (kind p), argP p]), .own (some 1) (.dK kvs), .un, .un, .val (.lst (row2.map .str)), .val d3, .val (.lst (row.map .str)), .val (encP x)] rfl ?_
        refine s_cons (t_ifB _ (jtb_bool (jwb_and (jt_cmp (j_nm 6 rfl (v_val (j_non ⟨_, rfl, cd_isN ⟨rfl, rfl⟩⟩)))) fun h => (jwb_and1 (jtb_bool (jwb_or (jt_cmp (j_ix (v_val (j_nm 2 rfl (j_int ⟨_, rfl, xd_tup rfl (v_val (j_str ⟨_, rfl, cd_eqS ⟨rfl, rfl⟩⟩))⟩))))) fun h => (jwb_or1 (jt_cmp (j_ix (v_val (j_nm 2 rfl (j_int ⟨_, rfl, xd_tup rfl (v_val (j_str ⟨_, rfl, cd_eqS ⟨rfl, rfl⟩⟩))⟩))))))) ⟨rfl, rfl⟩))) ⟨rfl, rfl⟩) (fun h => absurd h (by simp [isNon])) (fun h => s_nil ?_))
        refine s_cons (t_ifB _ (jt_cmp (j_nm 6 rfl (v_val (j_non ⟨_, rfl, cd_notN ⟨rfl, rfl⟩⟩)))) (fun h => ?_) (fun h => absurd h (by simp [isNon])))
        refine s_cons (t_asg 8 (j_bin (j_nm 8 rfl (j_nm 6 rfl (bd_addL (by rw [List.length_map, List.length_map]; omega) ?_)))) nd)
        refine s_nil (s_nil ⟨row ++ row2, k3, .val (.lst (row2.map .str)), .val (encP x), fun y hy => ?_, by rw [List.length_append]; omega, by omega, ?_⟩)
        · rcases List.mem_append.mp hy with h | h
          · exact hrow y h
          · exact hrow2 y h
        · rw [List.map_append]
          rfl
    · subst e
      rw [List.length_map, List.take_length] at hrl hk'
      exact s_cons (t_ret (j_nm 8 rfl ⟨_, rfl, (q k' (by omega)).2 row hrow (by omega)⟩))
end
end DL

set_option Elab.async false
set_option linter.all false
set_option maxRecDepth 100000
set_option autoImplicit false
set_option maxHeartbeats 4000000
/-! E44: trees grown by a schema. -/
namespace DL
open PySem PySem.Spec L2
/-- a tree that the law grows -/
def TGood (t : Tr) : Prop := TrOk t ∧ tnodes t ≤ 30
mutual
theorem depth_nodes : ∀ t : Tr, t.depth ≤ tnodes t
  | .node g w ks => by
    have := depths_nodes ks
    rw [Tr.depth, tnodes]; omega
theorem depths_nodes : ∀ ts : List Tr, tdepths ts ≤ tnodess ts
  | [] => by simp [tdepths]
  | t :: ts => by
    have := depth_nodes t
    have := depths_nodes ts
    rw [tdepths, tnodess]; omega
end
theorem TGood.depth {t : Tr} (h : TGood t) : t.depth ≤ 30 := Nat.le_trans (depth_nodes t) h.2
theorem trOks_of : ∀ {ts : List Tr}, (∀ t ∈ ts, TrOk t) → TrOks ts
  | [], _ => by unfold TrOks; trivial
  | t :: ts, h => by unfold TrOks; exact ⟨h t List.mem_cons_self, trOks_of fun t ht => h t (List.mem_cons_of_mem _ ht)⟩
theorem tdepths_le {n : Nat} : ∀ {ts : List Tr}, (∀ t ∈ ts, t.depth ≤ n) → tdepths ts ≤ n
  | [], _ => Nat.zero_le _
  | t :: ts, h => by
    have h1 := h t List.mem_cons_self
    have h2 := tdepths_le (n := n) (ts := ts) fun p hp => h p (List.mem_cons_of_mem _ hp)
    unfold tdepths; omega
theorem tnodes_pos (t : Tr) : 1 ≤ tnodes t := by cases t; rw [tnodes]; omega
theorem tlen_nodes : ∀ ts : List Tr, ts.length ≤ tnodess ts
  | [] => by simp
  | t :: ts => by
    have := tlen_nodes ts
    have := tnodes_pos t
    rw [tnodess, List.length_cons]; omega
theorem sum_nodes : ∀ ks : List Tr, (ks.map fun t => ((tnodes t : Nat) : Int)).sum = ((tnodess ks : Nat) : Int)
  | [] => by simp [tnodess]
  | t :: ts => by rw [List.map_cons, List.sum_cons, sum_nodes ts, tnodess]; omega
/-- the trees known -/
structure KnJ (i : Nat) (kvs : List (Key × Dt)) : Prop where
  few : kvs.length ≤ i
  keys : ∀ kv ∈ kvs, ∃ x : Str, kv.1 = .inr x
  vals : ∀ kv ∈ kvs, ∃ t, TGood t ∧ kv.2 = encT t
theorem putD_mem {l : List (Key × Dt)} {k : Key} {d : Dt} {kv : Key × Dt} (h : kv ∈ putD l k d) : kv ∈ l ∨ (kv.1 = k ∧ kv.2 = d) := by
  unfold putD at h
  split at h
  · obtain ⟨y, h1, rfl⟩ := List.mem_map.mp h
    by_cases e : y.1 = k
    · rw [if_pos e]; exact .inr ⟨e, rfl⟩
    · rw [if_neg e]; exact .inl h1
  · rcases List.mem_append.mp h with h | h
    · exact .inl h
    · have : kv = (k, d) := by simpa using h
      subst this
      exact .inr ⟨rfl, rfl⟩
theorem KnJ.put {i : Nat} {kvs : List (Key × Dt)} (h : KnJ i kvs) (x : Str) {t : Tr} (ht : TGood t) : KnJ (i + 1) (putD kvs (.inr x) (encT t)) := by
  refine ⟨?_, fun kv hk => ?_, fun kv hk => ?_⟩
  · have := putD_len kvs (.inr x) (encT t); have := h.few; omega
  · rcases putD_mem hk with q | ⟨q, _⟩
    · exact h.keys kv q
    · exact ⟨x, q⟩
  · rcases putD_mem hk with q | ⟨_, q⟩
    · exact h.vals kv q
    · exact ⟨t, ht, q⟩
theorem KnJ.more {i : Nat} {kvs : List (Key × Dt)} (h : KnJ i kvs) : KnJ (i + 1) kvs := ⟨by have := h.few; omega, h.keys, h.vals⟩
theorem KnJ.get {i : Nat} {kvs : List (Key × Dt)} (h : KnJ i kvs) {x : Str} (hx : (valD kvs (.inr x)).isSome = true) : ∃ t, TGood t ∧ valD kvs (.inr x) = some (encT t) := by
  cases e : valD kvs (.inr x) with
  | none => rw [e] at hx; cases hx
  | some d =>
    unfold valD at e
    obtain ⟨kv, h1, rfl⟩ := Option.map_eq_some_iff.mp e
    obtain ⟨t, h2, h3⟩ := h.vals kv (List.mem_of_find?_eq_some h1)
    exact ⟨t, h2, by rw [h3]⟩
def keyN (kv : Key × Dt) : Str := match kv.1 with
  | .inr x => x
  | .inl _ => ""
theorem KnJ.keysD {i : Nat} {kvs : List (Key × Dt)} (h : KnJ i kvs) : (kvs.map fun kv => keyD kv.1) = (kvs.map keyN).map Dt.str := by
  rw [List.map_map]
  refine List.map_congr_left fun kv hk => ?_
  obtain ⟨x, e⟩ := h.keys kv hk
  show keyD kv.1 = Dt.str (keyN kv)
  unfold keyN
  rw [e]; rfl
theorem KnJ.has {i : Nat} {kvs : List (Key × Dt)} (h : KnJ i kvs) {x : Str} (hx : x ∈ kvs.map keyN) : (valD kvs (.inr x)).isSome = true := by
  obtain ⟨kv, hk, rfl⟩ := List.mem_map.mp hx
  obtain ⟨x, e⟩ := h.keys kv hk
  have e2 : keyN kv = x := by unfold keyN; rw [e]
  rw [e2, ← valD_any, List.any_eq_true]
  exact ⟨kv, hk, decide_eq_true e⟩
abbrev pickD (kvs : List (Key × Dt)) (x : Str) : Dt := (valD kvs (.inr x)).getD .non
theorem KnJ.pick {i : Nat} {kvs : List (Key × Dt)} (h : KnJ i kvs) : ∀ L : List Str, (∀ x ∈ L, (valD kvs (.inr x)).isSome = true) → ∃ ts : List Tr, L.map (pickD kvs) = ts.map encT ∧ (∀ t ∈ ts, TGood t) ∧ ts.length = L.length
  | [], _ => ⟨[], rfl, (fun t h => absurd h (by simp)), rfl⟩
  | x :: L, hx => by
    obtain ⟨t, h1, h2⟩ := h.get (hx x List.mem_cons_self)
    obtain ⟨ts, h3, h4, h5⟩ := h.pick L fun y hy => hx y (List.mem_cons_of_mem _ hy)
    refine ⟨t :: ts, ?_, fun y hy => ?_, by rw [List.length_cons, List.length_cons, h5]⟩
    · rw [List.map_cons, List.map_cons, h3]
      unfold pickD
      rw [h2]; rfl
    · rcases List.mem_cons.mp hy with rfl | hy
      · exact h1
      · exact h4 y hy
section
variable {P : Program} {w : World} {K : PySem.W.Frag} {mg : Str → Option Value} {base : Heap}
theorem kd_sumE {X : Cx} {d : Dt} {ns : List Int} {R : Dt → Prop} (e : d = .lst (ns.map Dt.int)) (q : R (.int ns.sum)) (hc : X.calm = true := by rfl) : KD X (.builtin "sum") [d] R := e ▸ kd_sum q hc
def sNodes (n : Nat) : FS := fun as R => ∃ t : Tr, as = [.val (encT t)] ∧ t.depth ≤ n ∧ TrOk t ∧ R (nD (tnodes t)) []
theorem d_nodes (M : Names mg) (h : Has K mg "_law_nodes" (top 73) ["_law_tree"]) : ∀ n, DefOk P w K mg base "_law_nodes" (n + 1) (sNodes n)
  | 0 => def_D h ["_law_tree", "_law_kid"] ⟨rfl, rfl, rfl, by decide +kernel, rfl, by decide +kernel, by decide +kernel⟩ (fun as R ⟨_, e, _⟩ => by subst e; rfl) fun f cdv A outer s H E as R hr hu nd ⟨t, _, hd, _⟩ => absurd hd (by cases t; unfold Tr.depth; omega)
  | n + 1 => by
    have D := d_nodes M h n
    refine def_D h ["_law_tree", "_law_kid"] ⟨rfl, rfl, rfl, by decide +kernel, rfl, by decide +kernel, by decide +kernel⟩ (fun as R ⟨_, e, _⟩ => by subst e; rfl) fun f cdv A outer s H E as R hr hu nd ⟨t, e, hd, ok, q⟩ => ?_
    subst e
    have hz := szl
    obtain ⟨g, wd, ks⟩ := t
    unfold Tr.depth at hd
    unfold TrOk at ok
    rw [tnodes] at q
    rw [encT, encTs_eq]
    have e1 : ((ks.filter fun _ => true).map fun t => nD (tnodes t)) = (ks.map fun t => ((tnodes t : Nat) : Int)).map Dt.int := by rw [filt_true, List.map_map]; rfl
    refine s_cons (t_ret (j_bin (j_int (j_blt "sum" M.sum (by decide +kernel) (a_cons (v_val (j_comp [("_law_kid", 1)] ks encT (fun _ => true) (fun t => nD (tnodes t)) (i_tup (j_ix (v_val (j_nm 0 rfl (j_int ⟨_, rfl, xd_tup rfl ⟨_, rfl, ⟨rfl, rfl⟩⟩⟩))))) (by omega) (fun x hx => turn_id fun _ _ _ _ _ => b_nm 1 (fun _ _ _ _ _ => (j_call D (hr.mono (by omega)) (a_cons (v_val (j_nm 1 rfl (a_nil ⟨_, rfl, nd0, ⟨x, rfl, by have := tdepth_mem hx; omega, trOk_mem hx ok.2.2, ⟨rfl, rfl⟩⟩⟩)))))) (by decide) nd) (a_nil ⟨_, rfl, kd_sumE (congrArg Dt.lst e1) (bd_add ⟨_, rfl, ?_⟩)⟩) nd (blk ["_law_tree", "_law_kid"] (defScope (top 73)) (by decide +kernel))))))))) 
    rw [sum_nodes, show (1 : Int) + ((tnodess ks : Nat) : Int) = ((tnodess ks + 1 : Nat) : Int) by omega]
    exact q
def sWord : FS := fun as R => ∃ (ns : List Int) (k : Nat) (mk : Str), as = [.val (scD ns), .own (atD k), .val (.str mk)] ∧ ns.length ≤ 63 ∧ k < 2 ^ 50 ∧ ∀ wd : Str, R (.str wd) [atD (k + 1)]
theorem word_len : ("abcdefghijklmnopqrstuvwxyz0123456789" : Str).cps.toList.length = 36 ∧ ("abcdefghijklmnopqrstuvwxyz0123456789" : Str).length ≤ 1000 := by decide +kernel
theorem d_word (M : Names mg) (D1 : DefOk P w K mg base "_law_next" 2 sNextL) (h : Has K mg "_law_word" (top 74) ["_law_script", "_law_at", "_law_mark"]) : DefOk P w K mg base "_law_word" 3 sWord := by
  refine def_D h ["_law_script", "_law_at", "_law_mark", "_law_number"] ⟨rfl, rfl, rfl, by decide +kernel, rfl, by decide +kernel, by decide +kernel⟩ (fun as R ⟨_, _, _, e, _⟩ => by subst e; rfl) fun f cdv A outer s H E as R hr hu nd ⟨ns, k, mk, e, h63, hk, q⟩ => ?_
  subst e
  refine s_cons (t_asg 3 (j_call D1 (hr.mono (by decide)) (a_cons (v_val (j_nm 0 rfl (a_cons (v_own 1 rfl (a_cons (v_val (j_int (a_nil ⟨_, rfl, nd1, ⟨ns, k, 180, rfl, h63, hk, by decide, fun z hz => ?_⟩⟩)))))))))) nd)
  refine s_norm [.val (scD ns), .own (some 0) (atD (k + 1)), .val (.str mk), .val (nD z)] rfl ?_
  refine s_cons (t_ifB _ (jtb_bool (jwb_or (jt_cmp (j_nm 2 rfl (v_val (j_str ⟨_, rfl, cd_eqS ⟨rfl, rfl⟩⟩)))) fun h => (jwb_or1 (jtb_bool (jwb_and (jt_cmp (j_nm 2 rfl (v_val (j_str ⟨_, rfl, cd_eqS ⟨rfl, rfl⟩⟩)))) fun h => (jwb_and1 (jt_cmp (j_bin (j_nm 3 rfl (j_int (bd_mod (by decide) (v_val (j_int ⟨_, rfl, cd_eq ⟨rfl, rfl⟩⟩))))))))) ⟨rfl, rfl⟩))) ⟨rfl, rfl⟩) (fun h => ?_) (fun h => ?_))
  · exact s_cons (t_ret (j_str ⟨_, rfl, q _⟩))
  refine s_nil ?_
  have hy : z / 2 % 36 < ("abcdefghijklmnopqrstuvwxyz0123456789" : Str).cps.toList.length := by rw [word_len.1]; omega
  have ey : (z : Int) / 2 % 36 = ((z / 2 % 36 : Nat) : Int) := by omega
  have e1 := atI_nat (List.getElem?_eq_getElem hy)
  rw [← ey] at e1
  exact s_cons (t_ret (j_bin (j_ix (v_val (j_str (j_bin (j_bin (j_nm 3 rfl (j_int (bd_fdiv ⟨by decide, by decide⟩ (j_int (bd_mod (by decide) ⟨_, rfl, xd_str (small9 word_len.2) e1 (j_bin (j_int (j_bin (j_nm 3 rfl (j_int (bd_mod (by decide) (bd_add (bd_mulS (mulOk_small _ (by omega) (by omega)) ⟨_, rfl, q _⟩))))))))⟩))))))))))))
def sGrown : FS := fun as R => ∃ (ns : List Int) (k : Nat) (S : Schema), as = [.val (scD ns), .own (atD k), .val (encS S)] ∧ ns.length ≤ 63 ∧ k < 2 ^ 47 ∧ LawS S ∧ ∀ (ts : List Tr) (k' : Nat), (∀ t ∈ ts, TGood t) → ts.length ≤ 12 → k' ≤ k + 2 ^ 42 → R (.lst (ts.map encT)) [atD k']
theorem d_grown (M : Names mg) (D3 : DefOk P w K mg base "_law_row" (7 + 3) (sLRow 7)) (D4 : DefOk P w K mg base "_law_word" 3 sWord) (D5 : DefOk P w K mg base "_law_nodes" (31 + 1) (sNodes 31)) (h : Has K mg "_law_grown" (top 75) ["_law_script", "_law_at", "_law_schema_here"]) : DefOk P w K mg base "_law_grown" 33 sGrown := by
  refine def_D h ["_law_script", "_law_at", "_law_schema_here", "_law_known", "_law_k", "_law_rule", "_law_row_here", "_law_tree", "_law_name"] ⟨rfl, rfl, rfl, by decide +kernel, rfl, by decide +kernel, by decide +kernel⟩ (fun as R ⟨_, _, _, e, _⟩ => by subst e; rfl) fun f cdv A outer s H E as R hr hu nd ⟨ns, k, S, e, h63, hk, ls, q⟩ => ?_
  subst e
  have hz := szl
  have h4 := ls.four
  have hwt : ∀ r ∈ S.rules, wt r.pat ≤ 24320000000 ∧ ln r.pat ≤ 384 := fun r hr => by
    have h1 := wt_le r.pat 7 (ls.depth r hr) (ls.nodes r hr)
    have h2 := ln_le r.pat 7 (ls.depth r hr)
    have h3 := (ls.wf.pats r hr).cnt
    have h5 := ls.nodes r hr
    have h6 : r.pat.nodes * 20 ^ 7 ≤ 19 * 20 ^ 7 := Nat.mul_le_mul_right _ h5
    have h7 : cnt r.pat * 2 ^ 7 ≤ 3 * 2 ^ 7 := Nat.mul_le_mul_right _ h3
    exact ⟨by omega, by omega⟩
  refine s_cons (t_asgN 3 (n_dK ?_) nd)
  refine s_cons (t_for (i_rng1 M.range (j_int ⟨_, rfl, ⟨by decide, by decide⟩, ⟨fun i ρ => ∃ (kvs : List (Key × Dt)) (k' : Nat) (d4 d5 d6 d7 : Slot), KnJ i kvs ∧ k' ≤ k + i * 24320000001 ∧ ρ = [.val (scD ns), .own (some 0) (atD k'), .val (encS S), .own none (.dK kvs), d4, d5, d6, d7, .un], ⟨[], k, _, _, _, _, ⟨Nat.le_refl _, (fun kv h => absurd h (by simp)), (fun kv h => absurd h (by simp))⟩, by omega, rfl⟩, fun i d ρ hd ⟨kvs, k', _, _, _, d7, kj, hk', e⟩ => ?_, fun ρ ⟨kvs, k', _, _, _, _, kj, hk', e⟩ => ?_⟩⟩)))
  · subst e
    obtain ⟨hi, rfl⟩ := rget hd
    have hi : i < 12 := by omega
    have hp : (0 : Int) + (i : Int) * 1 = (i : Int) := by omega
    rw [hp]
    have hy : (3 + i) % 4 < S.rules.length := by omega
    have ey : ((3 : Int) + (i : Int)) % 4 = (((3 + i) % 4 : Nat) : Int) := by omega
    have er := List.getElem?_eq_getElem hy
    have hm := List.getElem_mem hy
    generalize S.rules[(3 + i) % 4] = r at er hm
    have e1 := atI_map (f := encR) er
    rw [← ey] at e1
    obtain ⟨hw, hl⟩ := hwt r hm
    have hmul : i * 24320000001 ≤ 11 * 24320000001 := Nat.mul_le_mul_right _ (by omega)
    have hmul2 : (i + 1) * 24320000001 = i * 24320000001 + 24320000001 := by rw [Nat.succ_mul]
    have hkl := kj.few
    refine g_nm 4 ?_ nd
    refine s_cons (t_asg 5 (j_ix (v_val (j_ix (v_val (j_nm 2 rfl (j_int ⟨_, rfl, xd_tup rfl (j_bin (j_bin (j_int (j_nm 4 rfl (bd_add (j_int (bd_mod (by decide) ⟨_, rfl, xd_tup e1 ?_⟩)))))))⟩)))))) nd)
    refine s_cons (t_asg 6 (j_call D3 (hr.mono (by decide)) (a_cons (v_val (j_nm 0 rfl (a_cons (v_own 1 rfl (a_cons (v_val (j_ix (v_val (j_nm 5 rfl (j_int ⟨_, rfl, xd_tup rfl (a_cons (v_own 3 rfl (a_nil ⟨_, rfl, nd2, ⟨ns, k', r.pat, kvs, rfl, h63, ls.depth r hm, by have := ls.nodes r hm; omega, by omega, by omega, fun k2 hk2 => ⟨?_, fun row hrow hrl => ?_⟩⟩⟩)))⟩)))))))))))) nd)
    · refine s_norm [.val (scD ns), .own (some 0) (atD k2), .val (encS S), .own none (.dK kvs), .val (nD i), .val (encR r), .val .non, d7, .un] rfl ?_
      refine s_cons (t_ifB _ (jt_cmp (j_nm 6 rfl (v_val (j_non ⟨_, rfl, cd_notN ⟨rfl, rfl⟩⟩)))) (fun h => absurd h (by decide)) (fun h => s_nil ?_))
      exact s_nil ⟨kvs, k2, _, _, _, _, kj.more, by omega, rfl⟩
    · refine s_norm [.val (scD ns), .own (some 0) (atD k2), .val (encS S), .own none (.dK kvs), .val (nD i), .val (encR r), .val (.lst (row.map .str)), d7, .un] rfl ?_
      refine s_cons (t_ifB _ (jt_cmp (j_nm 6 rfl (v_val (j_non ⟨_, rfl, cd_notN ⟨rfl, rfl⟩⟩)))) (fun h => ?_) (fun h => absurd h (by simp [isNon])))
      obtain ⟨ks, eks, hks, hkl2⟩ := kj.pick row hrow
      refine s_cons (t_asg 7 (j_tup (l_cons (j_ix (v_val (j_nm 5 rfl (j_int ⟨_, rfl, xd_tup rfl (l_cons (j_call D4 (hr.mono (by decide)) (a_cons (v_val (j_nm 0 rfl (a_cons (v_own 1 rfl (a_cons (v_val (j_ix (v_val (j_nm 5 rfl (j_int ⟨_, rfl, xd_tup rfl (a_nil ⟨_, rfl, nd1, ⟨ns, k2, r.mark, rfl, h63, by omega, fun wd => (l_cons (j_ty "tuple" M.tuple (by decide +kernel) (a_cons (v_val (j_comp [("_law_name", 8)] row Dt.str (fun _ => true) (pickD kvs) (i_lst (j_nm 6 rfl ⟨_, rfl, ⟨rfl, rfl⟩⟩)) (by omega) (fun x hx => turn_id fun _ _ _ _ _ => b_nm 8 (fun _ _ _ _ _ => (j_ix (v_own 3 rfl (j_nm 8 rfl ⟨_, rfl, xd_dKs (by exact hu) (d := pickD kvs x) ?_ ⟨rfl, rfl⟩⟩)))) (by decide) nd) (a_nil ⟨_, rfl, kd_tupL (l_nil ?_)⟩) nd (blk ["_law_script", "_law_at", "_law_schema_here", "_law_known", "_law_k", "_law_rule", "_law_row_here", "_law_tree", "_law_name"] (defScope (top 75)) (by decide +kernel)))))))⟩⟩)⟩)))))))))))))⟩)))))) nd)
      · obtain ⟨t, _, e⟩ := kj.get (hrow x hx)
        unfold pickD
        rw [e]; rfl
      have et : Dt.tup [.str r.tag, .str wd, .tup ((row.filter fun _ => true).map (pickD kvs))] = encT (.node r.tag wd ks) := by
        rw [encT, encTs_eq, filt_true, eks]
      have htag := tag_len (ls.wf.tags r hm)
      have ok : TrOk (.node r.tag wd ks) := by
        unfold TrOk
        exact ⟨by omega, by omega, trOks_of fun t ht => (hks t ht).1⟩
      have hdp : (Tr.node r.tag wd ks).depth ≤ 31 := by
        have := tdepths_le (n := 30) fun t ht => (hks t ht).depth
        unfold Tr.depth
        omega
      rw [et]
      generalize Tr.node r.tag wd ks = t at ok hdp
      refine s_norm [.val (scD ns), .own (some 0) (atD (k2 + 1)), .val (encS S), .own none (.dK kvs), .val (nD i), .val (encR r), .val (.lst (row.map .str)), .val (encT t), .un] rfl ?_
      refine s_cons (t_ifB _ (jt_cmp (j_call D5 (hr.mono (by decide)) (a_cons (v_val (j_nm 7 rfl (a_nil ⟨_, rfl, nd0, ⟨t, rfl, hdp, ok, (v_val (j_int ⟨_, rfl, cd_le ⟨rfl, rfl⟩⟩))⟩⟩)))))) (fun h => ?_) (fun h => s_nil (s_nil (s_nil ⟨kvs, k2 + 1, _, _, _, _, kj.more, by omega, rfl⟩))))
      have h30 : ((tnodes t : Nat) : Int) ≤ 30 := of_decide_eq_true h
      refine s_cons (t_sub 3 (j_nm 7 rfl ⟨_, _, rfl, (j_ix (v_val (j_nm 5 rfl (j_int ⟨_, rfl, xd_tup rfl ⟨_, _, rfl, wd_dKs hu (by omega) ?_⟩⟩))))⟩))
      exact s_nil (s_nil (s_nil ⟨_, k2 + 1, _, _, _, _, kj.put r.name ⟨ok, by omega⟩, by omega, rfl⟩))
  · subst e
    rw [rng_len] at kj hk'
    have e12 : ((12 : Int)).toNat = 12 := rfl
    rw [e12] at kj hk'
    refine s_freeze 3 rfl ?_
    have hkl := kj.few
    have hll : ((kvs.map keyN).mergeSort leS).length ≤ 12 := by rw [List.length_mergeSort, List.length_map]; exact hkl
    have hhas : ∀ x ∈ (kvs.map keyN).mergeSort leS, (valD kvs (.inr x)).isSome = true := fun x hx => kj.has (List.mem_mergeSort.mp hx)
    obtain ⟨ts, ets, hts, htl⟩ := kj.pick _ hhas
    refine s_cons (t_ret (j_comp [("_law_name", 8)] ((kvs.map keyN).mergeSort leS) Dt.str (fun _ => true) (pickD kvs) (i_lst (j_blt "sorted" M.sorted (by decide +kernel) (a_cons (v_val (j_nm 3 rfl (a_nil ⟨_, rfl, kd_sortK hu (by rw [kj.keysD]; exact canS (by rw [List.length_map]; omega)) ⟨_, rfl, ⟨by rw [kj.keysD, sortS], rfl⟩⟩⟩)))))) (by omega) (fun x hx => turn_id fun _ _ _ _ _ => b_nm 8 (fun _ _ _ _ _ => (j_ix (v_val (j_nm 3 rfl (j_nm 8 rfl ⟨_, rfl, xd_dKs (by exact hu) (d := pickD kvs x) ?_ ⟨rfl, rfl⟩⟩))))) (by decide) nd) ⟨_, rfl, ?_⟩ nd (blk ["_law_script", "_law_at", "_law_schema_here", "_law_known", "_law_k", "_law_rule", "_law_row_here", "_law_tree", "_law_name"] (defScope (top 75)) (by decide +kernel))))
    · obtain ⟨t, _, e⟩ := kj.get (hhas x hx)
      unfold pickD
      rw [e]; rfl
    · rw [filt_true, ets]
      exact q ts k' hts (by omega) (by omega)
end
end DL

set_option Elab.async false
set_option linter.all false
set_option maxRecDepth 100000
set_option autoImplicit false
set_option maxHeartbeats 4000000
/-! E45: the law. -/
namespace DL
open PySem PySem.Spec L2
theorem small_lt : ∀ c ∈ SMALL.cps.toList, c < 1114112 := by decide +kernel
theorem tag_lt {z : Str} (h : tagOk z) : ∀ c ∈ z.cps.toList, c < 1114112 := fun c hc => by
  unfold tagOk allOf at h
  simp only [Bool.and_eq_true, List.all_eq_true, decide_eq_true_eq] at h
  exact small_lt c (h.2 c hc)
theorem lab_lt {z : Str} (h : isLab z) : ∀ c ∈ z.cps.toList, c < 1114112 := fun c hc => by
  rcases h with h | ⟨t, h, rfl⟩
  · exact tag_lt h c hc
  · rw [snoc_colon] at hc
    rcases List.mem_append.mp hc with q | q
    · exact tag_lt h c q
    · have : c = 58 := by simpa using q
      omega
theorem canLay_str {z : Str} (h : ∀ c ∈ z.cps.toList, c < 1114112) : PyData.canLay0 (.str z) = true := by
  show z.cps.all (fun c => decide (c < 0x110000)) = true
  rw [← Array.all_toList, List.all_eq_true]
  intro c hc
  exact decide_eq_true (h c hc)
theorem canLayAll_map {α : Type} {f : α → PyData} : ∀ {l : List α}, (∀ a ∈ l, (f a).canLay0 = true) → PyData.canLayAll0 (l.map f) = true
  | [], _ => rfl
  | a :: l, h => by
    rw [List.map_cons, PyData.canLayAll0, h a List.mem_cons_self, canLayAll_map fun b hb => h b (List.mem_cons_of_mem _ hb)]
    rfl
theorem depthAll_mapN {α : Type} {f : α → PyData} {n : Nat} (h : ∀ a, (f a).depth ≤ n) : ∀ l : List α, PyData.depthAll (l.map f) ≤ n
  | [] => Nat.zero_le _
  | a :: l => by
    rw [List.map_cons, PyData.depthAll]
    exact Nat.max_le.mpr ⟨h a, depthAll_mapN h l⟩
theorem sh_M {M : Mach} (wf : ∀ x ∈ M.starts, isLab x.1) : SeqAt.shaped (encM M).py = true := by
  have c1 : PyData.canLayAll0 (M.starts.map (Dt.py ∘ pD)) = true := canLayAll_map fun a ha => by
    show (pD a).py.canLay0 = true
    simp only [pD, Dt.py, pys, nD, PyData.canLay0, PyData.canLayAll0, Bool.and_true]
    exact canLay_str (lab_lt (wf a ha))
  have cN : ∀ l : List Nat, PyData.canLayAll0 (l.map (Dt.py ∘ nD)) = true := fun l => canLayAll_map fun a ha => by
    show (nD a).py.canLay0 = true
    simp only [nD, Dt.py, PyData.canLay0]
  have c2 : PyData.canLayAll0 (M.steps.map (Dt.py ∘ rowD)) = true := canLayAll_map fun a ha => by
    show (rowD a).py.canLay0 = true
    simp only [rowD, Dt.py, PyData.canLay0]
    rw [pys_eq, List.map_map]
    exact cN a
  have dN : ∀ l : List Nat, PyData.depthAll (l.map (Dt.py ∘ nD)) ≤ 1 := depthAll_mapN fun a => by
    show (nD a).py.depth ≤ 1
    simp only [nD, Dt.py, PyData.depth]; omega
  have d1 : PyData.depthAll (M.starts.map (Dt.py ∘ pD)) ≤ 4 := depthAll_mapN (fun a => by
    show (pD a).py.depth ≤ 4
    simp only [pD, Dt.py, pys, nD, PyData.depth, PyData.depthAll]; omega) _
  have d2 : PyData.depthAll (M.steps.map (Dt.py ∘ rowD)) ≤ 4 := depthAll_mapN (fun a => by
    show (rowD a).py.depth ≤ 4
    simp only [rowD, Dt.py, PyData.depth]
    rw [pys_eq, List.map_map]
    have := dN a
    omega) _
  have d3 := dN M.good
  have e : (encM M).py = .tuple [.list (M.starts.map (Dt.py ∘ pD)), .list (M.steps.map (Dt.py ∘ rowD)), .list (M.good.map (Dt.py ∘ nD))] := by
    simp only [encM, Dt.py, pys]
    rw [pys_eq, pys_eq, pys_eq, List.map_map, List.map_map, List.map_map]
  rw [e]
  unfold SeqAt.shaped
  rw [Bool.and_eq_true]
  constructor
  · simp only [PyData.canLay0, PyData.canLayAll0, c1, c2, cN, Bool.and_true]
  · refine decide_eq_true ?_
    simp only [PyData.depth, PyData.depthAll]
    omega
theorem plain_M (M : Mach) : (encM M).plain = true := by
  simp only [encM, Dt.plain, plains, plains_eq, Bool.and_true, Bool.and_eq_true, List.all_eq_true, List.mem_map]
  refine ⟨?_, ?_, ?_⟩
  · rintro _ ⟨a, _, rfl⟩
    simp only [pD, Dt.plain, plains, nD, Bool.and_true]
  · rintro _ ⟨a, _, rfl⟩
    simp only [rowD, Dt.plain, plains_eq, List.all_eq_true, List.mem_map]
    rintro _ ⟨b, _, rfl⟩
    simp only [nD, Dt.plain]
  · rintro _ ⟨a, _, rfl⟩
    simp only [nD, Dt.plain]
section
variable {P : Program} {w : World} {K : PySem.W.Frag} {mg : Str → Option Value} {base : Heap}
/-- way_of: none, or not, as the schema admits -/
def sWay : FS := fun as R => ∃ (S : Schema) (t : Tr), as = [.val (encS S), .val (encT t)] ∧ WfS S ∧ TGood t ∧ ∀ d, (isNon d = false ↔ Admits S t) → R d []
theorem way_imp (D : DefOk P w K mg base "way_of" 65 sWayOf) : DefOk P w K mg base "way_of" 65 sWay := by
  refine D.imp fun as R ⟨S, t, e, wf, tg, q⟩ => ⟨S, t, e, wf, by have := tg.depth; omega, tg.1, by have := tg.2; omega, fun hx tl => ?_, fun hx => ?_⟩
  · exact q _ ⟨fun _ => (admits_iff wf t).mpr hx, fun _ => rfl⟩
  · exact q _ ⟨(fun h => by cases h), fun h => absurd ((admits_iff wf t).mp h) hx⟩
def sLaw : FS := fun as R => ∃ ns : List Int, as = [.val (scD ns)] ∧ ns.length ≤ 63 ∧ R (.bl true) []
theorem same_non {a b : Bool} {p q : Prop} (h1 : a = false ↔ p) (h2 : b = false ↔ q) (h : p ↔ q) : a = b := by
  cases a <;> cases b <;> simp_all
/-- as def_D, the function told -/
theorem def_F {x : Str} {st : Stmt} {ps : List Str} {k : Nat} {S : FS} {f : Addr} {fd : FuncData} (h : Fun K x x st f fd) (N : List Str) (sc : FnScope N ps (defScope st)) (hlen : ∀ as R, S as R → as.length = ps.length)
    (hbody : ∀ (f : Addr) (cdv : Value) (A : Around) (outer : List PySem.Env) (s : Shared) (H : Hp) (E : XK) (as : List Arg) (R : Dt → List Dt → Prop), Room k (CB P w K mg base N x st f cdv A outer s H E).A → (CB P w K mg base N x st f cdv A outer s H E).A.units + 64 < cLine → (CB P w K mg base N x st f cdv A outer s H E).N.Nodup → S as R →
      JS (CB P w K mg base N x st f cdv A outer s H E) (defBody st) (env0 N.length as) { nx := fun ρ => ∃ cs, outs 0 0 as ρ = some cs ∧ R .non cs, rt := fun d ρ => ∃ cs, outs 0 0 as ρ = some cs ∧ R d cs }) : FnOk P w K mg base CX0 (k + 1) f fd ps (spD P w S) :=
  fn_D h sc hlen fun X cdv A outer s H E as R e hr hS => by subst e; exact hbody f cdv A outer s H E as R hr hr.units sc.nd hS
theorem d_law {lf : Addr} {ld : FuncData} (M : Names mg) (D1 : DefOk P w K mg base "_law_schema" 5 sSchema) (D2 : DefOk P w K mg base "_law_otherwise" 11 sOther) (D3 : DefOk P w K mg base "_law_third" 3 sThird) (D4 : DefOk P w K mg base "machine_of" 64 sMachine) (D5 : DefOk P w K mg base "least_machine" 6 sLeast) (D6 : DefOk P w K mg base "_law_grown" 33 sGrown) (D7 : DefOk P w K mg base "way_of" 65 sWay) (h : Fun K "law" "law" (top 76) lf ld) : FnOk P w K mg base CX0 66 lf ld ["_law_script"] (spD P w sLaw) := by
  refine def_F h ["_law_script", "_law_at", "_law_schema_here", "_law_second", "_law_third_here", "_law_least", "_law_same", "_law_tree", "_law_lets"] ⟨rfl, rfl, rfl, by decide +kernel, rfl, by decide +kernel, by decide +kernel⟩ (fun as R ⟨_, e, _⟩ => by subst e; rfl) fun f cdv A outer s H E as R hr hu nd ⟨ns, e, h63, q⟩ => ?_
  subst e
  have hz := szl
  refine s_cons (t_asgN 1 (n_lst (l_cons (j_int (l_nil ?_)))) nd)
  refine s_norm [.val (scD ns), .own none (atD 0), .un, .un, .un, .un, .un, .un, .un] rfl ?_
  refine s_cons (t_asg 2 (j_call D1 (hr.mono (by decide)) (a_cons (v_val (j_nm 0 rfl (a_cons (v_own 1 rfl (a_nil ⟨_, rfl, nd1, ⟨ns, 0, rfl, h63, by decide, fun S k1 ls hk1 => ?_⟩⟩))))))) nd)
  refine s_norm [.val (scD ns), .own none (atD k1), .val (encS S), .un, .un, .un, .un, .un, .un] rfl ?_
  refine s_cons (t_asg 3 (j_call D2 (hr.mono (by decide)) (a_cons (v_val (j_nm 0 rfl (a_cons (v_own 1 rfl (a_cons (v_val (j_nm 2 rfl (a_nil ⟨_, rfl, nd1, ⟨ns, k1, S, rfl, h63, by omega, ls, fun Q k2 wfQ hQ hk2 => ?_⟩⟩)))))))))) nd)
  refine s_norm [.val (scD ns), .own none (atD k2), .val (encS S), .val (encS Q), .un, .un, .un, .un, .un] rfl ?_
  refine s_cons (t_asg 4 (j_call D3 (hr.mono (by decide)) (a_cons (v_val (j_nm 0 rfl (a_cons (v_own 1 rfl (a_cons (v_val (j_nm 2 rfl (a_nil ⟨_, rfl, nd1, ⟨ns, k2, S, rfl, h63, by omega, ls, fun T k3 lsT hk3 => ?_⟩⟩)))))))))) nd)
  refine s_norm [.val (scD ns), .own none (atD k3), .val (encS S), .val (encS Q), .val (encS T), .un, .un, .un, .un] rfl ?_
  refine s_cons (t_asg 5 (j_call D5 (hr.mono (by decide)) (a_cons (v_val (j_call D4 (hr.mono (by decide)) (a_cons (v_val (j_nm 2 rfl (a_nil ⟨_, rfl, nd0, ⟨S, rfl, ls.wf, fun M1 wM1 hM1 => (a_nil ⟨_, rfl, nd0, ⟨M1, rfl, wM1, fun L1 wL1 hL1 => ?_⟩⟩)⟩⟩)))))))) nd)
  refine s_norm [.val (scD ns), .own none (atD k3), .val (encS S), .val (encS Q), .val (encS T), .val (encM L1), .un, .un, .un] rfl ?_
  refine s_cons (t_if (jt_cmp (j_call D5 (hr.mono (by decide)) (a_cons (v_val (j_call D4 (hr.mono (by decide)) (a_cons (v_val (j_nm 3 rfl (a_nil ⟨_, rfl, nd0, ⟨Q, rfl, wfQ, fun M2 wM2 hM2 => (a_nil ⟨_, rfl, nd0, ⟨M2, rfl, wM2, fun L2 wL2 hL2 => (v_val (j_nm 5 rfl ⟨_, rfl, cd_neD hu (plain_M L2) (plain_M L1) (sh_M fun x hx => (wL2.starts.lab x hx).1) (sh_M fun x hx => (wL1.starts.lab x hx).1) ⟨fun h => ?_, fun h => ?_⟩ (tv_tup _)⟩))⟩⟩)⟩⟩))))))))))
  · have e : L2 = L1 := Least.eq hL2 hL1 fun t => (hM2 t).trans ((hQ t).trans (hM1 t).symm)
    rw [(eqv_M L2 L1).mpr e] at h
    cases h
  refine s_nil ?_
  refine s_cons (t_asg 6 (j_cmp (j_call D5 (hr.mono (by decide)) (a_cons (v_val (j_call D4 (hr.mono (by decide)) (a_cons (v_val (j_nm 4 rfl (a_nil ⟨_, rfl, nd0, ⟨T, rfl, lsT.wf, fun M3 wM3 hM3 => (a_nil ⟨_, rfl, nd0, ⟨M3, rfl, wM3, fun L3 wL3 hL3 => (v_val (j_nm 5 rfl ⟨_, rfl, cd_eqD hu (plain_M L3) (plain_M L1) (sh_M fun x hx => (wL3.starts.lab x hx).1) (sh_M fun x hx => (wL1.starts.lab x hx).1) ?_ (tv_tup _)⟩))⟩⟩)⟩⟩))))))))) nd)
  have hsame : PyData.eqv (encM L3).py (encM L1).py = true → ∀ t, Admits T t ↔ Admits S t := fun h t => by
    have e := (eqv_M L3 L1).mp h
    subst e
    rw [← hM3 t, ← hM1 t, ← hL3.reads t, ← hL1.reads t]
  generalize PyData.eqv (encM L3).py (encM L1).py = sm at hsame
  refine s_norm [.val (scD ns), .own none (atD k3), .val (encS S), .val (encS Q), .val (encS T), .val (encM L1), .val (.bl sm), .un, .un] rfl ?_
  refine s_cons (t_for (i_lst (j_bin (j_call D6 (hr.mono (by decide)) (a_cons (v_val (j_nm 0 rfl (a_cons (v_own 1 rfl (a_cons (v_val (j_nm 2 rfl (a_nil ⟨_, rfl, nd1, ⟨ns, k3, S, rfl, h63, by omega, ls, fun ts1 k4 hts1 hl1 hk4 => (j_call D6 (hr.mono (by decide)) (a_cons (v_val (j_nm 0 rfl (a_cons (v_own 1 rfl (a_cons (v_val (j_nm 4 rfl (a_nil ⟨_, rfl, nd1, ⟨ns, k4, T, rfl, h63, by omega, lsT, fun ts2 k5 hts2 hl2 hk5 => (bd_addL (by rw [List.length_map, List.length_map]; omega) ⟨_, rfl, ⟨fun i ρ => ∃ d7 d8 : Slot, ρ = [.val (scD ns), .own none (atD k5), .val (encS S), .val (encS Q), .val (encS T), .val (encM L1), .val (.bl sm), d7, d8], ⟨_, _, rfl⟩, fun i d ρ hd ⟨_, _, e⟩ => ?_, fun ρ ⟨_, _, e⟩ => ?_⟩⟩)⟩⟩))))))))))⟩⟩)))))))))))))
  · subst e
    rw [← List.map_append] at hd
    obtain ⟨t, ht, rfl⟩ := mget hd
    have hm := List.mem_of_getElem? ht
    have tg : TGood t := (List.mem_append.mp hm).elim (hts1 t) (hts2 t)
    refine g_nm 7 ?_ nd
    refine s_cons (t_asg 8 (j_cmp (j_call D7 (hr.mono (by decide)) (a_cons (v_val (j_nm 2 rfl (a_cons (v_val (j_nm 7 rfl (a_nil ⟨_, rfl, nd0, ⟨S, t, rfl, ls.wf, tg, fun d1 hd1 => (v_val (j_non ⟨_, rfl, cd_notN ?_⟩))⟩⟩))))))))) nd)
    refine s_norm [.val (scD ns), .own none (atD k5), .val (encS S), .val (encS Q), .val (encS T), .val (encM L1), .val (.bl sm), .val (encT t), .val (.bl (!isNon d1))] rfl ?_
    refine s_cons (t_if (jt_cmp (j_cmp (j_call D7 (hr.mono (by decide)) (a_cons (v_val (j_nm 3 rfl (a_cons (v_val (j_nm 7 rfl (a_nil ⟨_, rfl, nd0, ⟨Q, t, rfl, wfQ, tg, fun d2 hd2 => (v_val (j_non ⟨_, rfl, cd_notN (v_val (j_nm 8 rfl ⟨_, rfl, cd_neB ⟨fun h => ?_, fun h => ?_⟩⟩))⟩))⟩⟩)))))))))))
    · have e := same_non hd2 hd1 (hQ t)
      rw [e] at h
      simp at h
    refine s_nil ?_
    refine s_norm [.val (scD ns), .own none (atD k5), .val (encS S), .val (encS Q), .val (encS T), .val (encM L1), .val (.bl sm), .val (encT t), .val (.bl (!isNon d1))] rfl ?_
    refine s_cons (t_if (jt_bool (jw_and (jt_val (j_nm 6 rfl ⟨_, rfl, ⟨fun hs => (jw_and1 (jt_cmp (j_cmp (j_call D7 (hr.mono (by decide)) (a_cons (v_val (j_nm 4 rfl (a_cons (v_val (j_nm 7 rfl (a_nil ⟨_, rfl, nd0, ⟨T, t, rfl, lsT.wf, tg, fun d3 hd3 => (v_val (j_non ⟨_, rfl, cd_notN (v_val (j_nm 8 rfl ⟨_, rfl, cd_neB ⟨fun h => ?_, fun h => ?_⟩⟩))⟩))⟩⟩))))))))))), fun hs => ⟨fun h => (by cases h), fun h => s_nil ?_⟩⟩⟩)))))
    · have e := same_non hd3 hd1 (hsame hs t)
      rw [e] at h
      simp at h
    · exact s_nil (s_nil ⟨_, _, rfl⟩)
    · exact s_nil ⟨_, _, rfl⟩
  · subst e
    exact s_cons (t_ret (j_bl ⟨_, rfl, q⟩))
end
end DL

set_option Elab.async false
set_option linter.all false
set_option maxRecDepth 100000
set_option autoImplicit false
set_option maxHeartbeats 4000000
/-! E46: the written part without its lists; the program's top; the end. -/
namespace DL
open PySem PySem.Spec L2
def okA (K : PySem.W.Frag) (a : Addr) : Bool := match K.lookup a with
  | some ⟨_, _, .seq _ _, _⟩ => false
  | _ => true
def noSeq (K : PySem.W.Frag) : PySem.W.Frag := K.filter fun p => okA K p.1
theorem lookup_filter {α β : Type} [BEq α] [LawfulBEq α] (q : α → Bool) (a : α) : ∀ l : List (α × β), (l.filter fun p => q p.1).lookup a = if q a = true then l.lookup a else none
  | [] => by simp
  | (b, v) :: l => by
    have ih := lookup_filter q a l
    by_cases e : a = b
    · subst e
      by_cases hq : q a = true
      · rw [List.filter_cons, if_pos (show q (a, v).1 = true from hq), if_pos hq]
        simp [List.lookup]
      · rw [List.filter_cons, if_neg (show ¬ q (a, v).1 = true from hq), ih, if_neg hq, if_neg hq]
    · have e2 : (a == b) = false := by simp [e]
      have e3 : List.lookup a ((b, v) :: l) = List.lookup a l := by
        show (match a == b with | true => some v | false => List.lookup a l) = _
        rw [e2]
      rw [e3]
      by_cases hq : q b = true
      · rw [List.filter_cons, if_pos (show q (b, v).1 = true from hq)]
        have e4 : List.lookup a ((b, v) :: l.filter fun p => q p.1) = List.lookup a (l.filter fun p => q p.1) := by
          show (match a == b with | true => some v | false => List.lookup a (l.filter fun p => q p.1)) = _
          rw [e2]
        rw [e4, ih]
      · rw [List.filter_cons, if_neg (show ¬ q (b, v).1 = true from hq), ih]
theorem lookup_noSeq (K : PySem.W.Frag) (a : Addr) : (noSeq K).lookup a = if okA K a = true then K.lookup a else none := lookup_filter (okA K) a K
theorem noSeq_in {K : PySem.W.Frag} {h : Heap} (X : K.In h) : (noSeq K).In h := fun a o e => by
  rw [lookup_noSeq] at e
  split at e
  · exact X a o e
  · cases e
theorem noSeq_of {K : PySem.W.Frag} {a : Addr} {o : Obj} (h : K.lookup a = some o) (hd : ∀ xs n, o.data ≠ .seq xs n) : (noSeq K).lookup a = some o := by
  rw [lookup_noSeq]
  have : okA K a = true := by
    unfold okA
    rw [h]
    obtain ⟨c, d, dt, sl⟩ := o
    cases dt <;> first | rfl | exact absurd rfl (hd _ _)
  rw [if_pos this]
  exact h
theorem noSeq_ns {K : PySem.W.Frag} {g : Addr} {x : Str} {r : Option Value} (e : PySem.W.nsIn K g x = some r) : PySem.W.nsIn (noSeq K) g x = some r := by
  have e0 := e
  unfold PySem.W.nsIn at e
  split at e
  · rename_i c d es n sl q
    have : (noSeq K).lookup g = K.lookup g := by rw [q]; exact noSeq_of q (fun _ _ z => by cases z)
    unfold PySem.W.nsIn at e0 ⊢
    rw [this]
    exact e0
  · cases e
theorem noSeq_code {K : PySem.W.Frag} {cd : Value} {x : Str} (e : PySem.W.codeIn K cd x = true) : PySem.W.codeIn (noSeq K) cd x = true := by
  have e0 := e
  unfold PySem.W.codeIn at e
  split at e
  · rename_i c
    split at e
    · rename_i c2 d2 vs sl q
      have : (noSeq K).lookup c = K.lookup c := by rw [q]; exact noSeq_of q (fun _ _ z => by cases z)
      unfold PySem.W.codeIn at e0 ⊢
      dsimp only at e0 ⊢
      rw [this]
      exact e0
    · cases e
  · cases e
theorem noSeq_keep {K : PySem.W.Frag} {f : Addr} {c : Value} {d : Option Addr} {fd : FuncData} {sl : Array (Option Value)} (l : K.lookup f = some ⟨c, d, .func fd, sl⟩) : PySem.W.keepIn (noSeq K) (.ref f) = true := by
  unfold PySem.W.keepIn
  dsimp only
  rw [noSeq_of l (fun _ _ z => by cases z)]
theorem noSeq_sq {K : PySem.W.Frag} {H : Hp} {a : Addr} {xs : List V} (h : SqL (noSeq K) H a xs) : L2.Rd H a (.lst xs) := by
  rcases h with h | ⟨o, its, n, h1, _, _, h2, _⟩
  · exact h
  · rw [lookup_noSeq] at h1
    split at h1
    · rename_i hk
      unfold okA at hk
      rw [h1] at hk
      obtain ⟨c, d, dt, sl⟩ := o
      have h2 : dt = .seq its n := h2
      subst h2
      cases hk
    · cases h1
/-- the def stands in the written part -/
def Std (K : PySem.W.Frag) (x : Str) (st : Stmt) : Prop := ∃ (f : Addr) (oc : Value) (od : Option Addr) (kV dc pm : Value) (an : Option Addr) (cd ct : Value) (sl : Array (Option Value)), PySem.W.nsIn K mainGlobals x = some (some (.ref f)) ∧
  K.lookup f = some ⟨oc, od, .func (PySem.W.fnOf x x (defArgs st) (defBody st) (defScope st) .none kV dc pm an cd ct), sl⟩ ∧ PySem.W.codeIn K cd x = true
theorem std_mk {K : PySem.W.Frag} {x : Str} {st : Stmt} {f : Addr} {oc : Value} {od : Option Addr} {kV dc pm : Value} {an : Option Addr} {cd ct : Value} {sl : Array (Option Value)} (a : PySem.W.nsIn K mainGlobals x = some (some (.ref f)))
    (l : K.lookup f = some ⟨oc, od, .func (PySem.W.fnOf x x (defArgs st) (defBody st) (defScope st) .none kV dc pm an cd ct), sl⟩) (c : PySem.W.codeIn K cd x = true) : Std K x st := ⟨f, oc, od, kV, dc, pm, an, cd, ct, sl, a, l, c⟩
theorem val_mk {K : PySem.W.Frag} {x : Str} {g : Tok → Value} {t : Tok} (a : PySem.W.nsIn K mainGlobals x = some (some (g t))) : ∃ t, PySem.W.nsIn K mainGlobals x = some (some (g t)) := ⟨t, a⟩
theorem has_of {K : PySem.W.Frag} {h : Heap} {mg : Str → Option Value} {x : Str} {st : Stmt} {ps : List Str} (X : K.In h) (G : h.Ns mainGlobals mg) (p : Std K x st)
    (hb : ∀ (kV doc pm : Value) (an : Option Addr) (cdv ct : Value) (us : List Value), us.length = ps.length → bindArgs (PySem.W.fnOf x x (defArgs st) (defBody st) (defScope st) .none kV doc pm an cdv ct) ⟨us, []⟩ = pure (ps.zip us)) : Has (noSeq K) mg x st ps := by
  obtain ⟨f, oc, od, kV, dc, pm, an, cd, ct, sl, a, l, c⟩ := p
  have F := fun_mk (noSeq_of l (fun _ _ z => by cases z)) (noSeq_code c) (noSeq_keep l)
  exact ⟨f, _, F, PySem.W.mg_of X G a, F.binds hb⟩
/-- the names that the defs see besides -/
structure Top0 (K : PySem.W.Frag) : Prop where
  isi : PySem.W.nsIn K mainGlobals "isinstance" = some none
  str : PySem.W.nsIn K mainGlobals "str" = some none
  len : PySem.W.nsIn K mainGlobals "len" = some none
  range : PySem.W.nsIn K mainGlobals "range" = some none
  sorted : PySem.W.nsIn K mainGlobals "sorted" = some none
  list : PySem.W.nsIn K mainGlobals "list" = some none
  tuple : PySem.W.nsIn K mainGlobals "tuple" = some none
  set : PySem.W.nsIn K mainGlobals "set" = some none
  any : PySem.W.nsIn K mainGlobals "any" = some none
  sum : PySem.W.nsIn K mainGlobals "sum" = some none
  int : PySem.W.nsIn K mainGlobals "int" = some none
  small : ∃ t, PySem.W.nsIn K mainGlobals "SMALL" = some (some (.str "abcdefghijklmnopqrstuvwxyz" t))
  states : ∃ t, PySem.W.nsIn K mainGlobals "MOST_STATES" = some (some (.int 100 t))
  sets : ∃ t, PySem.W.nsIn K mainGlobals "MOST_SETS" = some (some (.int 100 t))
theorem names_of {K : PySem.W.Frag} {h : Heap} {mg : Str → Option Value} (X : K.In h) (G : h.Ns mainGlobals mg) (T : Top0 K) : Names mg :=
  have z : ∀ {x : Str}, PySem.W.nsIn K mainGlobals x = some none → mg x = none := fun e => PySem.W.mg_none_of X G e
  ⟨z T.isi, z T.str, z T.len, z T.range, z T.sorted, z T.list, z T.tuple, z T.set, z T.any, z T.sum, z T.int, T.small.imp fun _ e => PySem.W.mg_of X G e, T.states.imp fun _ e => PySem.W.mg_of X G e, T.sets.imp fun _ e => PySem.W.mg_of X G e⟩
structure Tops (K : PySem.W.Frag) : Prop where
  top0 : Top0 K
  s6 : Std K "all_of" (top 6)
  s7 : Std K "is_tag" (top 7)
  s8 : Std K "label_of" (top 8)
  s11 : Std K "is_label" (top 11)
  s12 : Std K "ask_steps" (top 12)
  s13 : Std K "ask_starts" (top 13)
  s14 : Std K "ask_good" (top 14)
  s15 : Std K "make_machine" (top 15)
  s17 : Std K "names_at" (top 17)
  s18 : Std K "pairs_between" (top 18)
  s19 : Std K "outline" (top 19)
  s20 : Std K "outline_of_row" (top 20)
  s21 : Std K "outline_of_any" (top 21)
  s22 : Std K "is_void" (top 22)
  s23 : Std K "takes_none" (top 23)
  s24 : Std K "first_places" (top 24)
  s25 : Std K "last_places" (top 25)
  s26 : Std K "next_places" (top 26)
  s28 : Std K "fits_label" (top 28)
  s29 : Std K "labels_of" (top 29)
  s32 : Std K "places_by_name" (top 32)
  s33 : Std K "spots_of_label" (top 33)
  s34 : Std K "spots_behind" (top 34)
  s35 : Std K "names_of_spots" (top 35)
  s36 : Std K "number_of_spots" (top 36)
  s37 : Std K "steps_among" (top 37)
  s38 : Std K "machine_of" (top 38)
  s40 : Std K "price_of_start" (top 40)
  s41 : Std K "started_prices" (top 41)
  s42 : Std K "prices_fall" (top 42)
  s43 : Std K "priced" (top 43)
  s44 : Std K "prices_of" (top 44)
  s46 : Std K "found_states" (top 46)
  s47 : Std K "split_once" (top 47)
  s48 : Std K "classes_of_states" (top 48)
  s49 : Std K "lay_class" (top 49)
  s50 : Std K "first_comings" (top 50)
  s51 : Std K "least_machine" (top 51)
  s53 : Std K "tables_of" (top 53)
  s54 : Std K "places_behind" (top 54)
  s55 : Std K "places_of_row" (top 55)
  s56 : Std K "ends_well" (top 56)
  s57 : Std K "names_by" (top 57)
  s58 : Std K "row_by" (top 58)
  s59 : Std K "way_by" (top 59)
  s60 : Std K "way_of" (top 60)
  s62 : Std K "_law_draw" (top 62)
  s63 : Std K "_law_next" (top 63)
  s64 : Std K "_law_heads" (top 64)
  s65 : Std K "_law_wrapped" (top 65)
  s66 : Std K "_law_pattern" (top 66)
  s67 : Std K "_law_schema" (top 67)
  s68 : Std K "_law_told_anew" (top 68)
  s69 : Std K "_law_turned" (top 69)
  s70 : Std K "_law_otherwise" (top 70)
  s71 : Std K "_law_third" (top 71)
  s72 : Std K "_law_row" (top 72)
  s73 : Std K "_law_nodes" (top 73)
  s74 : Std K "_law_word" (top 74)
  s75 : Std K "_law_grown" (top 75)
  s76 : Std K "law" (top 76)
theorem all_mk {K : PySem.W.Frag} {h : Heap} {mg : Str → Option Value} {fa : Addr} {P : Program} {w : World} (X : K.In h) (G : h.Ns mainGlobals mg) (hfa : mg "law" = some (.ref fa)) (T : Tops K) :
    ∃ fd : FuncData, (∀ (s : Shared) (u : Value), BindsTo s fd ⟨[u], []⟩ [("_law_script", u)]) ∧ ∀ base : Heap, FnOk P w (noSeq K) mg base CX0 66 fa fd ["_law_script"] (spD P w sLaw) := by
  have M := names_of X G T.top0
  have h6 : Has (noSeq K) mg "all_of" (top 6) ["thing", "signs", "most"] := has_of X G T.s6 fun _ _ _ _ _ _ us hl => match us, hl with | [_, _, _], _ => rfl
  have h7 : Has (noSeq K) mg "is_tag" (top 7) ["thing"] := has_of X G T.s7 fun _ _ _ _ _ _ us hl => match us, hl with | [_], _ => rfl
  have h8 : Has (noSeq K) mg "label_of" (top 8) ["tree"] := has_of X G T.s8 fun _ _ _ _ _ _ us hl => match us, hl with | [_], _ => rfl
  have h11 : Has (noSeq K) mg "is_label" (top 11) ["text"] := has_of X G T.s11 fun _ _ _ _ _ _ us hl => match us, hl with | [_], _ => rfl
  have h12 : Has (noSeq K) mg "ask_steps" (top 12) ["steps"] := has_of X G T.s12 fun _ _ _ _ _ _ us hl => match us, hl with | [_], _ => rfl
  have h13 : Has (noSeq K) mg "ask_starts" (top 13) ["starts", "size"] := has_of X G T.s13 fun _ _ _ _ _ _ us hl => match us, hl with | [_, _], _ => rfl
  have h14 : Has (noSeq K) mg "ask_good" (top 14) ["good", "size"] := has_of X G T.s14 fun _ _ _ _ _ _ us hl => match us, hl with | [_, _], _ => rfl
  have h15 : Has (noSeq K) mg "make_machine" (top 15) ["starts", "steps", "good"] := has_of X G T.s15 fun _ _ _ _ _ _ us hl => match us, hl with | [_, _, _], _ => rfl
  have h17 : Has (noSeq K) mg "names_at" (top 17) ["pattern"] := has_of X G T.s17 fun _ _ _ _ _ _ us hl => match us, hl with | [_], _ => rfl
  have h18 : Has (noSeq K) mg "pairs_between" (top 18) ["lasts", "firsts"] := has_of X G T.s18 fun _ _ _ _ _ _ us hl => match us, hl with | [_, _], _ => rfl
  have h19 : Has (noSeq K) mg "outline" (top 19) ["pattern", "base"] := has_of X G T.s19 fun _ _ _ _ _ _ us hl => match us, hl with | [_, _], _ => rfl
  have h20 : Has (noSeq K) mg "outline_of_row" (top 20) ["parts", "base"] := has_of X G T.s20 fun _ _ _ _ _ _ us hl => match us, hl with | [_, _], _ => rfl
  have h21 : Has (noSeq K) mg "outline_of_any" (top 21) ["parts", "base"] := has_of X G T.s21 fun _ _ _ _ _ _ us hl => match us, hl with | [_, _], _ => rfl
  have h22 : Has (noSeq K) mg "is_void" (top 22) ["pattern"] := has_of X G T.s22 fun _ _ _ _ _ _ us hl => match us, hl with | [_], _ => rfl
  have h23 : Has (noSeq K) mg "takes_none" (top 23) ["pattern"] := has_of X G T.s23 fun _ _ _ _ _ _ us hl => match us, hl with | [_], _ => rfl
  have h24 : Has (noSeq K) mg "first_places" (top 24) ["pattern"] := has_of X G T.s24 fun _ _ _ _ _ _ us hl => match us, hl with | [_], _ => rfl
  have h25 : Has (noSeq K) mg "last_places" (top 25) ["pattern"] := has_of X G T.s25 fun _ _ _ _ _ _ us hl => match us, hl with | [_], _ => rfl
  have h26 : Has (noSeq K) mg "next_places" (top 26) ["pattern"] := has_of X G T.s26 fun _ _ _ _ _ _ us hl => match us, hl with | [_], _ => rfl
  have h28 : Has (noSeq K) mg "fits_label" (top 28) ["rule", "label"] := has_of X G T.s28 fun _ _ _ _ _ _ us hl => match us, hl with | [_, _], _ => rfl
  have h29 : Has (noSeq K) mg "labels_of" (top 29) ["schema"] := has_of X G T.s29 fun _ _ _ _ _ _ us hl => match us, hl with | [_], _ => rfl
  have h32 : Has (noSeq K) mg "places_by_name" (top 32) ["schema"] := has_of X G T.s32 fun _ _ _ _ _ _ us hl => match us, hl with | [_], _ => rfl
  have h33 : Has (noSeq K) mg "spots_of_label" (top 33) ["schema", "tables", "label"] := has_of X G T.s33 fun _ _ _ _ _ _ us hl => match us, hl with | [_, _, _], _ => rfl
  have h34 : Has (noSeq K) mg "spots_behind" (top 34) ["tables", "spots", "names"] := has_of X G T.s34 fun _ _ _ _ _ _ us hl => match us, hl with | [_, _, _], _ => rfl
  have h35 : Has (noSeq K) mg "names_of_spots" (top 35) ["tables", "spots"] := has_of X G T.s35 fun _ _ _ _ _ _ us hl => match us, hl with | [_, _], _ => rfl
  have h36 : Has (noSeq K) mg "number_of_spots" (top 36) ["sets", "numbers", "spots"] := has_of X G T.s36 fun _ _ _ _ _ _ us hl => match us, hl with | [_, _, _], _ => rfl
  have h37 : Has (noSeq K) mg "steps_among" (top 37) ["tables", "sets", "numbers"] := has_of X G T.s37 fun _ _ _ _ _ _ us hl => match us, hl with | [_, _, _], _ => rfl
  have h38 : Has (noSeq K) mg "machine_of" (top 38) ["schema"] := has_of X G T.s38 fun _ _ _ _ _ _ us hl => match us, hl with | [_], _ => rfl
  have h40 : Has (noSeq K) mg "price_of_start" (top 40) ["label"] := has_of X G T.s40 fun _ _ _ _ _ _ us hl => match us, hl with | [_], _ => rfl
  have h41 : Has (noSeq K) mg "started_prices" (top 41) ["machine"] := has_of X G T.s41 fun _ _ _ _ _ _ us hl => match us, hl with | [_], _ => rfl
  have h42 : Has (noSeq K) mg "prices_fall" (top 42) ["steps", "prices", "hows"] := has_of X G T.s42 fun _ _ _ _ _ _ us hl => match us, hl with | [_, _, _], _ => rfl
  have h43 : Has (noSeq K) mg "priced" (top 43) ["machine"] := has_of X G T.s43 fun _ _ _ _ _ _ us hl => match us, hl with | [_], _ => rfl
  have h44 : Has (noSeq K) mg "prices_of" (top 44) ["machine"] := has_of X G T.s44 fun _ _ _ _ _ _ us hl => match us, hl with | [_], _ => rfl
  have h46 : Has (noSeq K) mg "found_states" (top 46) ["machine"] := has_of X G T.s46 fun _ _ _ _ _ _ us hl => match us, hl with | [_], _ => rfl
  have h47 : Has (noSeq K) mg "split_once" (top 47) ["steps", "some", "classes"] := has_of X G T.s47 fun _ _ _ _ _ _ us hl => match us, hl with | [_, _, _], _ => rfl
  have h48 : Has (noSeq K) mg "classes_of_states" (top 48) ["machine", "some"] := has_of X G T.s48 fun _ _ _ _ _ _ us hl => match us, hl with | [_, _], _ => rfl
  have h49 : Has (noSeq K) mg "lay_class" (top 49) ["order", "numbers", "classes", "state"] := has_of X G T.s49 fun _ _ _ _ _ _ us hl => match us, hl with | [_, _, _, _], _ => rfl
  have h50 : Has (noSeq K) mg "first_comings" (top 50) ["machine", "classes"] := has_of X G T.s50 fun _ _ _ _ _ _ us hl => match us, hl with | [_, _], _ => rfl
  have h51 : Has (noSeq K) mg "least_machine" (top 51) ["machine"] := has_of X G T.s51 fun _ _ _ _ _ _ us hl => match us, hl with | [_], _ => rfl
  have h53 : Has (noSeq K) mg "tables_of" (top 53) ["schema"] := has_of X G T.s53 fun _ _ _ _ _ _ us hl => match us, hl with | [_], _ => rfl
  have h54 : Has (noSeq K) mg "places_behind" (top 54) ["table", "places", "names"] := has_of X G T.s54 fun _ _ _ _ _ _ us hl => match us, hl with | [_, _, _], _ => rfl
  have h55 : Has (noSeq K) mg "places_of_row" (top 55) ["table", "rows"] := has_of X G T.s55 fun _ _ _ _ _ _ us hl => match us, hl with | [_, _], _ => rfl
  have h56 : Has (noSeq K) mg "ends_well" (top 56) ["table", "place"] := has_of X G T.s56 fun _ _ _ _ _ _ us hl => match us, hl with | [_, _], _ => rfl
  have h57 : Has (noSeq K) mg "names_by" (top 57) ["tables", "tree"] := has_of X G T.s57 fun _ _ _ _ _ _ us hl => match us, hl with | [_, _], _ => rfl
  have h58 : Has (noSeq K) mg "row_by" (top 58) ["table", "rows"] := has_of X G T.s58 fun _ _ _ _ _ _ us hl => match us, hl with | [_, _], _ => rfl
  have h59 : Has (noSeq K) mg "way_by" (top 59) ["tables", "tree", "name", "told"] := has_of X G T.s59 fun _ _ _ _ _ _ us hl => match us, hl with | [_, _, _, _], _ => rfl
  have h60 : Has (noSeq K) mg "way_of" (top 60) ["schema", "tree"] := has_of X G T.s60 fun _ _ _ _ _ _ us hl => match us, hl with | [_, _], _ => rfl
  have h62 : Has (noSeq K) mg "_law_draw" (top 62) ["_law_script", "_law_k", "_law_many"] := has_of X G T.s62 fun _ _ _ _ _ _ us hl => match us, hl with | [_, _, _], _ => rfl
  have h63 : Has (noSeq K) mg "_law_next" (top 63) ["_law_script", "_law_at", "_law_many"] := has_of X G T.s63 fun _ _ _ _ _ _ us hl => match us, hl with | [_, _, _], _ => rfl
  have h64 : Has (noSeq K) mg "_law_heads" (top 64) ["_law_number", "_law_base", "_law_letters", "_law_many"] := has_of X G T.s64 fun _ _ _ _ _ _ us hl => match us, hl with | [_, _, _, _], _ => rfl
  have h65 : Has (noSeq K) mg "_law_wrapped" (top 65) ["_law_script", "_law_at", "_law_pattern_here"] := has_of X G T.s65 fun _ _ _ _ _ _ us hl => match us, hl with | [_, _, _], _ => rfl
  have h66 : Has (noSeq K) mg "_law_pattern" (top 66) ["_law_script", "_law_at", "_law_names", "_law_places"] := has_of X G T.s66 fun _ _ _ _ _ _ us hl => match us, hl with | [_, _, _, _], _ => rfl
  have h67 : Has (noSeq K) mg "_law_schema" (top 67) ["_law_script", "_law_at"] := has_of X G T.s67 fun _ _ _ _ _ _ us hl => match us, hl with | [_, _], _ => rfl
  have h68 : Has (noSeq K) mg "_law_told_anew" (top 68) ["_law_script", "_law_at", "_law_pattern_here", "_law_turned_here"] := has_of X G T.s68 fun _ _ _ _ _ _ us hl => match us, hl with | [_, _, _, _], _ => rfl
  have h69 : Has (noSeq K) mg "_law_turned" (top 69) ["_law_row_here", "_law_number"] := has_of X G T.s69 fun _ _ _ _ _ _ us hl => match us, hl with | [_, _], _ => rfl
  have h70 : Has (noSeq K) mg "_law_otherwise" (top 70) ["_law_script", "_law_at", "_law_schema_here"] := has_of X G T.s70 fun _ _ _ _ _ _ us hl => match us, hl with | [_, _, _], _ => rfl
  have h71 : Has (noSeq K) mg "_law_third" (top 71) ["_law_script", "_law_at", "_law_schema_here"] := has_of X G T.s71 fun _ _ _ _ _ _ us hl => match us, hl with | [_, _, _], _ => rfl
  have h72 : Has (noSeq K) mg "_law_row" (top 72) ["_law_script", "_law_at", "_law_pattern_here", "_law_known"] := has_of X G T.s72 fun _ _ _ _ _ _ us hl => match us, hl with | [_, _, _, _], _ => rfl
  have h73 : Has (noSeq K) mg "_law_nodes" (top 73) ["_law_tree"] := has_of X G T.s73 fun _ _ _ _ _ _ us hl => match us, hl with | [_], _ => rfl
  have h74 : Has (noSeq K) mg "_law_word" (top 74) ["_law_script", "_law_at", "_law_mark"] := has_of X G T.s74 fun _ _ _ _ _ _ us hl => match us, hl with | [_, _, _], _ => rfl
  have h75 : Has (noSeq K) mg "_law_grown" (top 75) ["_law_script", "_law_at", "_law_schema_here"] := has_of X G T.s75 fun _ _ _ _ _ _ us hl => match us, hl with | [_, _, _], _ => rfl
  obtain ⟨f, oc, od, kV, dc, pm, an, cd, ct, sl, a, l, c⟩ := T.s76
  have e := hfa.symm.trans (PySem.W.mg_of X G a)
  cases e
  have F := fun_mk (noSeq_of l (fun _ _ z => by cases z)) (noSeq_code c) (noSeq_keep l)
  refine ⟨PySem.W.fnOf "law" "law" (defArgs (top 76)) (defBody (top 76)) (defScope (top 76)) .none kV dc pm an cd ct, fun s v => .of_eq rfl, fun base => ?_⟩
  have a6 := d_all_of (P := P) (w := w) (base := base) M h6
  have a7 := d_is_tag M a6 h7
  have a8 := d_label_of (P := P) (w := w) (base := base) M h8
  have a11 := d_is_label M a7 h11
  have a12 := d_ask_steps (P := P) (w := w) (base := base) M h12
  have a13 := d_ask_starts M a11 h13
  have a14 := d_ask_good (P := P) (w := w) (base := base) M h14
  have a15 := d_make_machine M a12 a13 a14 h15
  have a17 := d_names_at (P := P) (w := w) (base := base) M h17
  have a18 := d_pairs_between (P := P) (w := w) (base := base) M h18
  have a19 := d_outline M a18 h19 h20 h21
  have a22 := d_is_void M (a19 30) h22
  have a23 := d_takes_none M (a19 30) h23
  have a24 := d_first_places M (a19 30) h24
  have a25 := d_last_places M (a19 30) h25
  have a26 := d_next_places M (a19 30) h26
  have a28 := d_fits_label (P := P) (w := w) (base := base) M h28
  have a29 := d_labels_of M a28 h29
  have a32 := d_places_by_name M a22 a25 a23 (a17 30) a24 a26 h32
  have a33 := d_spots_of_label M a28 h33
  have a34 := d_spots_behind (P := P) (w := w) (base := base) M h34
  have a35 := d_names_of_spots (P := P) (w := w) (base := base) M h35
  have a36 := d_number_of_spots (P := P) (w := w) (base := base) M h36
  have a37 := d_steps_among M a35 a36 a34 h37
  have a38 := d_machine_of M a32 a29 a36 a33 a37 a35 a15 h38
  have a40 := d_price_of_start (P := P) (w := w) (base := base) M h40
  have a41 := d_started_prices M a40 h41
  have a42 := d_prices_fall (P := P) (w := w) (base := base) M h42
  have a43 := (d_priced M a41 a42 h43).defOk
  have a44 := d_prices_of M a43 h44
  have a46 := d_found_states M a44 h46
  have a47 := d_split_once (P := P) (w := w) (base := base) M h47
  have a48 := d_classes_of_states M a47 h48
  have a49 := d_lay_class (P := P) (w := w) (base := base) M h49
  have a50 := d_first_comings M a49 h50
  have a51 := d_least_machine M a46 a48 a50 a15 h51
  have a53 := d_tables_of M a22 (a17 30) a24 a25 a26 a23 h53
  have a54 := d_places_behind (P := P) (w := w) (base := base) M h54
  have a55 := d_places_of_row M a54 h55
  have a56 := d_ends_well (P := P) (w := w) (base := base) M h56
  have a57 := d_names_by M a28 a8 a55 a56 h57
  have a58 := d_row_by M a54 a56 h58
  have a59 := d_way_by M a57 a58 h59
  have a60 := way_imp (d_way_of M a53 a57 a59 h60)
  have a62 := d_draw (P := P) (w := w) (base := base) M h62
  have a63 := d_next M a62 h63
  have a64 := d_heads (P := P) (w := w) (base := base) M h64
  have a65 := d_wrapped M a63 h65
  have a66 := d_pattern M a63 a65 h66
  have a67 := d_schema M a63 a64 a66 h67
  have a68 := d_told M a63 h68
  have a69 := d_turned (P := P) (w := w) (base := base) M h69
  have a70 := d_otherwise M a63 a64 (a68 7) a69 h70
  have a71 := d_third M a63 h71
  have a72 := d_lrow M a63 h72
  have a73 := d_nodes (P := P) (w := w) (base := base) M h73
  have a74 := d_word M a63 h74
  have a75 := d_grown M (a72 7) a74 (a73 31) h75
  exact d_law M a67 a70 a71 a38 a51 a75 a60 F
theorem sp_law {P : Program} {w : World} {K : PySem.W.Frag} {H : Hp} {a : Addr} {ns : List Int} (hl : ns.length ≤ 63) (hO : Only H) (hS : SqL (noSeq K) H a (ns.map V.int)) {E : XK} : spD P w sLaw [.ref a] H (fun v _ => v = .bl true) E := by
  have hr := noSeq_sq hS
  have hf : ∃ o, H a = some (.frz o (.lst (ns.map V.int))) := by
    rcases hr with h | h
    · rcases hO a with z | ⟨o, xs, z⟩
      · rw [h] at z; cases z
      · rw [h] at z; cases z
    · exact h
  obtain ⟨o, ho⟩ := hf
  refine ⟨H, [.val (scD ns)], [], fun d _ => d = .bl true, Same.refl H, .val (.frz ho (isAll_of_ints ns)) .nil, ⟨ns, rfl, hl, rfl⟩, fun d cs v F' H' e _ _ _ _ i _ => ?_⟩
  subst e
  cases i
  rfl
theorem walk {l : PySem.W.OpenLaw} {q : Program} {loose : List Str} {XP : (Str → Option Value) → Heap → Prop} {YP : World → Heap → Prop} {d : DefRec} {K : Params → PySem.W.Frag} (hn : l.most = some 63) (hdf : d.params.defaults = [])
    (hY : ∀ (w : World) (h : Heap), YP w h → (K w.params).In h)
    (F : ∀ (w : World) (mg : Str → Option Value) (fa : Addr) (h : Heap), (K w.params).In h → h.Ns mainGlobals mg → mg d.name = some (.ref fa) →
      ∃ fd : FuncData, (∀ (s : Shared) (u : Value), BindsTo s fd ⟨[u], []⟩ [("_law_script", u)]) ∧ ∀ base : Heap, FnOk l.prog w (noSeq (K w.params)) mg base CX0 66 fa fd ["_law_script"] (spD l.prog w sLaw)) :
    PySem.W.WalkO q loose XP YP l.row.toRowW d [] (fun f vs => PySem.call f vs) :=
  walk_ofE (n := 63) (k := 66) (x := "_law_script") (CX := CX0) hn (by decide) hdf ⟨rfl, by decide, by decide⟩ (fun w mg fa h Y G e => by
    obtain ⟨fd, hb, hF⟩ := F w mg fa h (hY w h Y) G e
    exact ⟨noSeq (K w.params), fd, spD l.prog w sLaw, noSeq_in (hY w h Y), hb, fun H a ns h1 h2 h3 => sp_law h1 h2 h3, fun base _ _ => hF base⟩) fun _ _ _ _ z => z
end DL


set_option Elab.async false
set_option maxRecDepth 100000
open PySem PySem.W PyProof.Rows
set_option maxRecDepth 100000 in
set_option maxHeartbeats 0 in
theorem PySem.Challenge.cw_warden_k46_whole_schemas_told_otherwise_holds : PySem.Challenge.rw_warden_k46_whole_schemas_told_otherwise.Holds := by
  w_on; o_law; k_head; (case hw => w_witness2)
  k_fill
  refine DL.walk (l := PySem.Challenge.rw_warden_k46_whole_schemas_told_otherwise) rfl rfl (fun w h Y => PySem.W.kIn_of Y) ?F
  case F =>
    intro w mg fa h KX G hmg
    refine DL.all_mk KX G hmg ⟨⟨?n1, ?n2, ?n3, ?n4, ?n5, ?n6, ?n7, ?n8, ?n9, ?n10, ?n11, ?n12, ?n13, ?n14⟩, ?s6, ?s7, ?s8, ?s11, ?s12, ?s13, ?s14, ?s15, ?s17, ?s18, ?s19, ?s20, ?s21, ?s22, ?s23, ?s24, ?s25, ?s26, ?s28, ?s29, ?s32, ?s33, ?s34, ?s35, ?s36, ?s37, ?s38, ?s40, ?s41, ?s42, ?s43, ?s44, ?s46, ?s47, ?s48, ?s49, ?s50, ?s51, ?s53, ?s54, ?s55, ?s56, ?s57, ?s58, ?s59, ?s60, ?s62, ?s63, ?s64, ?s65, ?s66, ?s67, ?s68, ?s69, ?s70, ?s71, ?s72, ?s73, ?s74, ?s75, ?s76⟩
    (case n1 => k_is)
    (case n2 => k_is)
    (case n3 => k_is)
    (case n4 => k_is)
    (case n5 => k_is)
    (case n6 => k_is)
    (case n7 => k_is)
    (case n8 => k_is)
    (case n9 => k_is)
    (case n10 => k_is)
    (case n11 => k_is)
    (case n12 => refine' DL.val_mk ?t12; (case t12 => k_is))
    (case n13 => refine' DL.val_mk ?t13; (case t13 => k_is))
    (case n14 => refine' DL.val_mk ?t14; (case t14 => k_is))
    (case s6 => refine' DL.std_mk ?a6 ?l6 ?c6; (case a6 => k_is); (case l6 => k_is); (case c6 => k_is))
    (case s7 => refine' DL.std_mk ?a7 ?l7 ?c7; (case a7 => k_is); (case l7 => k_is); (case c7 => k_is))
    (case s8 => refine' DL.std_mk ?a8 ?l8 ?c8; (case a8 => k_is); (case l8 => k_is); (case c8 => k_is))
    (case s11 => refine' DL.std_mk ?a11 ?l11 ?c11; (case a11 => k_is); (case l11 => k_is); (case c11 => k_is))
    (case s12 => refine' DL.std_mk ?a12 ?l12 ?c12; (case a12 => k_is); (case l12 => k_is); (case c12 => k_is))
    (case s13 => refine' DL.std_mk ?a13 ?l13 ?c13; (case a13 => k_is); (case l13 => k_is); (case c13 => k_is))
    (case s14 => refine' DL.std_mk ?a14 ?l14 ?c14; (case a14 => k_is); (case l14 => k_is); (case c14 => k_is))
    (case s15 => refine' DL.std_mk ?a15 ?l15 ?c15; (case a15 => k_is); (case l15 => k_is); (case c15 => k_is))
    (case s17 => refine' DL.std_mk ?a17 ?l17 ?c17; (case a17 => k_is); (case l17 => k_is); (case c17 => k_is))
    (case s18 => refine' DL.std_mk ?a18 ?l18 ?c18; (case a18 => k_is); (case l18 => k_is); (case c18 => k_is))
    (case s19 => refine' DL.std_mk ?a19 ?l19 ?c19; (case a19 => k_is); (case l19 => k_is); (case c19 => k_is))
    (case s20 => refine' DL.std_mk ?a20 ?l20 ?c20; (case a20 => k_is); (case l20 => k_is); (case c20 => k_is))
    (case s21 => refine' DL.std_mk ?a21 ?l21 ?c21; (case a21 => k_is); (case l21 => k_is); (case c21 => k_is))
    (case s22 => refine' DL.std_mk ?a22 ?l22 ?c22; (case a22 => k_is); (case l22 => k_is); (case c22 => k_is))
    (case s23 => refine' DL.std_mk ?a23 ?l23 ?c23; (case a23 => k_is); (case l23 => k_is); (case c23 => k_is))
    (case s24 => refine' DL.std_mk ?a24 ?l24 ?c24; (case a24 => k_is); (case l24 => k_is); (case c24 => k_is))
    (case s25 => refine' DL.std_mk ?a25 ?l25 ?c25; (case a25 => k_is); (case l25 => k_is); (case c25 => k_is))
    (case s26 => refine' DL.std_mk ?a26 ?l26 ?c26; (case a26 => k_is); (case l26 => k_is); (case c26 => k_is))
    (case s28 => refine' DL.std_mk ?a28 ?l28 ?c28; (case a28 => k_is); (case l28 => k_is); (case c28 => k_is))
    (case s29 => refine' DL.std_mk ?a29 ?l29 ?c29; (case a29 => k_is); (case l29 => k_is); (case c29 => k_is))
    (case s32 => refine' DL.std_mk ?a32 ?l32 ?c32; (case a32 => k_is); (case l32 => k_is); (case c32 => k_is))
    (case s33 => refine' DL.std_mk ?a33 ?l33 ?c33; (case a33 => k_is); (case l33 => k_is); (case c33 => k_is))
    (case s34 => refine' DL.std_mk ?a34 ?l34 ?c34; (case a34 => k_is); (case l34 => k_is); (case c34 => k_is))
    (case s35 => refine' DL.std_mk ?a35 ?l35 ?c35; (case a35 => k_is); (case l35 => k_is); (case c35 => k_is))
    (case s36 => refine' DL.std_mk ?a36 ?l36 ?c36; (case a36 => k_is); (case l36 => k_is); (case c36 => k_is))
    (case s37 => refine' DL.std_mk ?a37 ?l37 ?c37; (case a37 => k_is); (case l37 => k_is); (case c37 => k_is))
    (case s38 => refine' DL.std_mk ?a38 ?l38 ?c38; (case a38 => k_is); (case l38 => k_is); (case c38 => k_is))
    (case s40 => refine' DL.std_mk ?a40 ?l40 ?c40; (case a40 => k_is); (case l40 => k_is); (case c40 => k_is))
    (case s41 => refine' DL.std_mk ?a41 ?l41 ?c41; (case a41 => k_is); (case l41 => k_is); (case c41 => k_is))
    (case s42 => refine' DL.std_mk ?a42 ?l42 ?c42; (case a42 => k_is); (case l42 => k_is); (case c42 => k_is))
    (case s43 => refine' DL.std_mk ?a43 ?l43 ?c43; (case a43 => k_is); (case l43 => k_is); (case c43 => k_is))
    (case s44 => refine' DL.std_mk ?a44 ?l44 ?c44; (case a44 => k_is); (case l44 => k_is); (case c44 => k_is))
    (case s46 => refine' DL.std_mk ?a46 ?l46 ?c46; (case a46 => k_is); (case l46 => k_is); (case c46 => k_is))
    (case s47 => refine' DL.std_mk ?a47 ?l47 ?c47; (case a47 => k_is); (case l47 => k_is); (case c47 => k_is))
    (case s48 => refine' DL.std_mk ?a48 ?l48 ?c48; (case a48 => k_is); (case l48 => k_is); (case c48 => k_is))
    (case s49 => refine' DL.std_mk ?a49 ?l49 ?c49; (case a49 => k_is); (case l49 => k_is); (case c49 => k_is))
    (case s50 => refine' DL.std_mk ?a50 ?l50 ?c50; (case a50 => k_is); (case l50 => k_is); (case c50 => k_is))
    (case s51 => refine' DL.std_mk ?a51 ?l51 ?c51; (case a51 => k_is); (case l51 => k_is); (case c51 => k_is))
    (case s53 => refine' DL.std_mk ?a53 ?l53 ?c53; (case a53 => k_is); (case l53 => k_is); (case c53 => k_is))
    (case s54 => refine' DL.std_mk ?a54 ?l54 ?c54; (case a54 => k_is); (case l54 => k_is); (case c54 => k_is))
    (case s55 => refine' DL.std_mk ?a55 ?l55 ?c55; (case a55 => k_is); (case l55 => k_is); (case c55 => k_is))
    (case s56 => refine' DL.std_mk ?a56 ?l56 ?c56; (case a56 => k_is); (case l56 => k_is); (case c56 => k_is))
    (case s57 => refine' DL.std_mk ?a57 ?l57 ?c57; (case a57 => k_is); (case l57 => k_is); (case c57 => k_is))
    (case s58 => refine' DL.std_mk ?a58 ?l58 ?c58; (case a58 => k_is); (case l58 => k_is); (case c58 => k_is))
    (case s59 => refine' DL.std_mk ?a59 ?l59 ?c59; (case a59 => k_is); (case l59 => k_is); (case c59 => k_is))
    (case s60 => refine' DL.std_mk ?a60 ?l60 ?c60; (case a60 => k_is); (case l60 => k_is); (case c60 => k_is))
    (case s62 => refine' DL.std_mk ?a62 ?l62 ?c62; (case a62 => k_is); (case l62 => k_is); (case c62 => k_is))
    (case s63 => refine' DL.std_mk ?a63 ?l63 ?c63; (case a63 => k_is); (case l63 => k_is); (case c63 => k_is))
    (case s64 => refine' DL.std_mk ?a64 ?l64 ?c64; (case a64 => k_is); (case l64 => k_is); (case c64 => k_is))
    (case s65 => refine' DL.std_mk ?a65 ?l65 ?c65; (case a65 => k_is); (case l65 => k_is); (case c65 => k_is))
    (case s66 => refine' DL.std_mk ?a66 ?l66 ?c66; (case a66 => k_is); (case l66 => k_is); (case c66 => k_is))
    (case s67 => refine' DL.std_mk ?a67 ?l67 ?c67; (case a67 => k_is); (case l67 => k_is); (case c67 => k_is))
    (case s68 => refine' DL.std_mk ?a68 ?l68 ?c68; (case a68 => k_is); (case l68 => k_is); (case c68 => k_is))
    (case s69 => refine' DL.std_mk ?a69 ?l69 ?c69; (case a69 => k_is); (case l69 => k_is); (case c69 => k_is))
    (case s70 => refine' DL.std_mk ?a70 ?l70 ?c70; (case a70 => k_is); (case l70 => k_is); (case c70 => k_is))
    (case s71 => refine' DL.std_mk ?a71 ?l71 ?c71; (case a71 => k_is); (case l71 => k_is); (case c71 => k_is))
    (case s72 => refine' DL.std_mk ?a72 ?l72 ?c72; (case a72 => k_is); (case l72 => k_is); (case c72 => k_is))
    (case s73 => refine' DL.std_mk ?a73 ?l73 ?c73; (case a73 => k_is); (case l73 => k_is); (case c73 => k_is))
    (case s74 => refine' DL.std_mk ?a74 ?l74 ?c74; (case a74 => k_is); (case l74 => k_is); (case c74 => k_is))
    (case s75 => refine' DL.std_mk ?a75 ?l75 ?c75; (case a75 => k_is); (case l75 => k_is); (case c75 => k_is))
    (case s76 => refine' DL.std_mk ?a76 ?l76 ?c76; (case a76 => k_is); (case l76 => k_is); (case c76 => k_is))

