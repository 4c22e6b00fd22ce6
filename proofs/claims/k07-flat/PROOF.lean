import PyProof.Rows.All
import Wide.All
import OpenK.AllK
import Wide.FinOn
import HandS.ForMost
import HandS.Evl
import HandS.Deep
import HandS.SortInts
import HandS.IsInst
import HandS.Flow
import HandS.Conv
import KE.DataMinMax
import HandS.SortRule
import HandS.DictTup
import HandS.DictSubView
import KE.SortData
import KE.KDictSum
import PyProof.DictMoreH
import HandS.ExcOwn
import HandS.ExcValue
import HandS.Rev
import HandS.TupLe
import KE.DataFind
import HandS.HotCalls
import HandS.ExcIs
import HandS.ExcCtx
import HandS.DictComp
import HandS.Style
import HandS.More
import HandS.TupSets
import HandS.SetKeys
import HandS.TupLen
import PySem.Challenge.RW_flatdraw_k07_flat
set_option Elab.async false

set_option Elab.async false
set_option linter.all false
set_option maxRecDepth 100000
set_option maxHeartbeats 1000000
set_option autoImplicit false
/-! FD: states by data: what stands in the slots and the cells, told by plain data. -/
namespace FD
open PySem L2 Evl

/-! ### values that stand for data -/
mutual
inductive Rep (F : Hp) : V → PyData → Prop
  | non : Rep F .non .none
  | bl (b : Bool) : Rep F (.bl b) (.bool b)
  | int (i : Int) : Rep F (.int i) (.int i)
  | str (x : Str) : Rep F (.str x) (.str x)
  | lst {a : Addr} {xs : List V} {ds : List PyData} : F a = some (.lst xs) → RepA F xs ds → Rep F (.ref a) (.list ds)
  | tup {a : Addr} {xs : List V} {ds : List PyData} : F a = some (.tup xs) → RepA F xs ds → Rep F (.ref a) (.tuple ds)
inductive RepA (F : Hp) : List V → List PyData → Prop
  | nil : RepA F [] []
  | cons {v : V} {vs : List V} {d : PyData} {ds : List PyData} : Rep F v d → RepA F vs ds → RepA F (v :: vs) (d :: ds)
end
mutual
theorem Rep.mono {F F' : Hp} (e : Ex F F') : ∀ (d : PyData) (v : V), Rep F v d → Rep F' v d
  | _, _, .non => .non
  | _, _, .bl b => .bl b
  | _, _, .int i => .int i
  | _, _, .str x => .str x
  | _, _, .lst h r => .lst (e _ _ h) (RepA.mono e _ _ r)
  | _, _, .tup h r => .tup (e _ _ h) (RepA.mono e _ _ r)
theorem RepA.mono {F F' : Hp} (e : Ex F F') : ∀ (ds : List PyData) (vs : List V), RepA F vs ds → RepA F' vs ds
  | _, _, .nil => .nil
  | _, _, .cons h r => .cons (Rep.mono e _ _ h) (RepA.mono e _ _ r)
end
mutual
theorem Rep.dp {K : PySem.W.Frag} {F : Hp} : ∀ (d : PyData) (v : V), Rep F v d → Dp K F v d
  | _, _, .non => .non
  | _, _, .bl b => .bl b
  | _, _, .int i => .int i
  | _, _, .str x => .str x
  | _, _, .lst h r => .lst (SqL.of h) (RepA.dp _ _ r)
  | _, _, .tup h r => .tup (SqT.of h) (RepA.dp _ _ r)
theorem RepA.dp {K : PySem.W.Frag} {F : Hp} : ∀ (ds : List PyData) (vs : List V), RepA F vs ds → DpAll K F vs ds
  | _, _, .nil => .nil
  | _, _, .cons h r => .cons (Rep.dp _ _ h) (RepA.dp _ _ r)
end
theorem Rep.int_inv {F : Hp} {v : V} {i : Int} (h : Rep F v (.int i)) : v = .int i := by cases h; rfl
theorem Rep.bl_inv {F : Hp} {v : V} {b : Bool} (h : Rep F v (.bool b)) : v = .bl b := by cases h; rfl
theorem Rep.str_inv {F : Hp} {v : V} {b : Str} (h : Rep F v (.str b)) : v = .str b := by cases h; rfl
theorem Rep.non_inv {F : Hp} {v : V} (h : Rep F v .none) : v = .non := by cases h; rfl
theorem Rep.lst_inv {F : Hp} {v : V} {ds : List PyData} (h : Rep F v (.list ds)) : ∃ a xs, v = .ref a ∧ F a = some (.lst xs) ∧ RepA F xs ds := by cases h; exact ⟨_, _, rfl, by assumption, by assumption⟩
theorem Rep.tup_inv {F : Hp} {v : V} {ds : List PyData} (h : Rep F v (.tuple ds)) : ∃ a xs, v = .ref a ∧ F a = some (.tup xs) ∧ RepA F xs ds := by cases h; exact ⟨_, _, rfl, by assumption, by assumption⟩
theorem RepA.length {F : Hp} {ds : List PyData} {vs : List V} (h : RepA F vs ds) : vs.length = ds.length := by
  induction vs generalizing ds with
  | nil => cases h; rfl
  | cons v vs ih => cases h with | cons h r => simp [ih r]
theorem RepA.get {F : Hp} {ds : List PyData} {vs : List V} (h : RepA F vs ds) : ∀ {i : Nat} {v : V}, vs[i]? = some v → ∃ d, ds[i]? = some d ∧ Rep F v d := by
  induction vs generalizing ds with
  | nil => intro i v e; simp at e
  | cons x vs ih =>
    cases h with
    | cons h r =>
      intro i v e
      cases i with
      | zero => simp at e; subst e; exact ⟨_, rfl, h⟩
      | succ i => simp at e; obtain ⟨d, h1, h2⟩ := ih r e; exact ⟨d, by simpa using h1, h2⟩
theorem RepA.get' {F : Hp} {ds : List PyData} {vs : List V} (h : RepA F vs ds) {i : Nat} {d : PyData} (e : ds[i]? = some d) : ∃ v, vs[i]? = some v ∧ Rep F v d := by
  have hi : i < vs.length := by rw [h.length]; exact (List.getElem?_eq_some_iff.mp e).1
  obtain ⟨d', e', r⟩ := h.get (i := i) (v := vs[i]) (by simp [hi])
  rw [e] at e'; cases e'
  exact ⟨_, by simp [hi], r⟩
theorem RepA.append {F : Hp} {ds es : List PyData} {vs ws : List V} (h : RepA F vs ds) (k : RepA F ws es) : RepA F (vs ++ ws) (ds ++ es) := by
  induction vs generalizing ds with
  | nil => cases h; exact k
  | cons v vs ih => cases h with | cons h r => exact .cons h (ih r)
theorem RepA.drop {F : Hp} : ∀ {ds : List PyData} {vs : List V} (n : Nat), RepA F vs ds → RepA F (vs.drop n) (ds.drop n)
  | _, _, 0, h => h
  | _, _, _ + 1, .nil => .nil
  | _, _, n + 1, .cons _ t => RepA.drop n t
theorem RepA.take {F : Hp} : ∀ {ds : List PyData} {vs : List V} (n : Nat), RepA F vs ds → RepA F (vs.take n) (ds.take n)
  | _, _, 0, _ => .nil
  | _, _, _ + 1, .nil => .nil
  | _, _, n + 1, .cons r t => .cons r (RepA.take n t)
theorem RepA.reverse {F : Hp} {ds : List PyData} {vs : List V} (h : RepA F vs ds) : RepA F vs.reverse ds.reverse := by
  induction vs generalizing ds with
  | nil => cases h; exact .nil
  | cons v vs ih => cases h with | cons h r => rw [List.reverse_cons, List.reverse_cons]; exact (ih r).append (.cons h .nil)
theorem RepA.set {F : Hp} {d : PyData} {v : V} (r : Rep F v d) : ∀ {ds : List PyData} {vs : List V} (i : Nat), RepA F vs ds → RepA F (vs.set i v) (ds.set i d)
  | _, _, _, .nil => .nil
  | _, _, 0, .cons _ t => .cons r t
  | _, _, i + 1, .cons q t => .cons q (RepA.set r i t)
theorem RepA.eraseIdx {F : Hp} : ∀ {ds : List PyData} {vs : List V} (i : Nat), RepA F vs ds → RepA F (vs.eraseIdx i) (ds.eraseIdx i)
  | _, _, _, .nil => .nil
  | _, _, 0, .cons _ t => t
  | _, _, i + 1, .cons q t => .cons q (RepA.eraseIdx i t)
theorem RepA.ints {F : Hp} : ∀ {ns : List Int} {vs : List V}, RepA F vs (ns.map PyData.int) → vs = ns.map V.int
  | [], _, h => by cases h; rfl
  | n :: ns, _, h => by
    cases h with
    | cons h r => cases h; simp [RepA.ints r]
theorem RepA.of_ints {F : Hp} : ∀ {ns : List Int}, RepA F (ns.map V.int) (ns.map PyData.int)
  | [] => .nil
  | n :: ns => .cons (.int n) RepA.of_ints
theorem RepA.bools {F : Hp} : ∀ {ns : List Bool} {vs : List V}, RepA F vs (ns.map PyData.bool) → vs = ns.map V.bl
  | [], _, h => by cases h; rfl
  | n :: ns, _, h => by
    cases h with
    | cons h r => cases h; simp [RepA.bools r]

/-- what is true of a value over a heap, and stays so when the heap grows -/
structure Mono where
  φ : Hp → V → Prop
  mono : ∀ F F' v, Ex F F' → φ F v → φ F' v

/-! ### what is told of a slot -/
inductive Sd
  | no
  | any
  | d (x : PyData)
  | v (x : V)
  | p (m : Mono)
def SlV (F : Hp) (v : V) : Sd → Prop
  | .no => False
  | .any => True
  | .d x => Rep F v x
  | .v u => v = u
  | .p m => m.φ F v
theorem SlV.mono {F F' : Hp} {v : V} (e : Ex F F') : ∀ {s : Sd}, SlV F v s → SlV F' v s
  | .no, h => h
  | .any, h => h
  | .d x, h => Rep.mono e _ _ h
  | .v u, h => h
  | .p m, h => m.mono _ _ _ e h
def SlO (F : Hp) : Option V → Sd → Prop
  | some v, s => SlV F v s
  | none, .no => True
  | none, .any => True
  | none, _ => False
theorem SlO.mono {F F' : Hp} (e : Ex F F') : ∀ {o : Option V} {s : Sd}, SlO F o s → SlO F' o s
  | some v, s, h => SlV.mono (s := s) e h
  | none, .no, h => h
  | none, .any, h => h
  | none, .d _, h => h
  | none, .v _, h => h
  | none, .p _, h => h
abbrev Sl (F : Hp) : L2.St → List Sd → Prop := Paired (SlO F)
abbrev SlA (F : Hp) : List V → List Sd → Prop := Paired (SlV F)
theorem Sl.mono {F F' : Hp} (e : Ex F F') {σ : L2.St} {Δ : List Sd} (h : Sl F σ Δ) : Sl F' σ Δ := Paired.mapP h fun _ _ q => SlO.mono e q
theorem SlA.mono {F F' : Hp} (e : Ex F F') {σ : List V} {Δ : List Sd} (h : SlA F σ Δ) : SlA F' σ Δ := Paired.mapP h fun _ _ q => SlV.mono e q
theorem Sl.get {F : Hp} : ∀ {σ : L2.St} {Δ : List Sd} {i : Nat} {s : Sd}, Sl F σ Δ → Δ[i]? = some s → ∃ o, σ[i]? = some o ∧ SlO F o s
  | _, _, _, _, .nil, e => by simp at e
  | _, _, 0, _, .cons r _, e => by simp at e; subst e; exact ⟨_, rfl, r⟩
  | _, _, i + 1, _, .cons _ t, e => by
    obtain ⟨o, h1, h2⟩ := Sl.get (i := i) t (by simpa using e)
    exact ⟨o, by simpa using h1, h2⟩
theorem Sl.set {F : Hp} {o : Option V} {s : Sd} (r : SlO F o s) : ∀ {σ : L2.St} {Δ : List Sd} (i : Nat), Sl F σ Δ → Sl F (σ.set i o) (Δ.set i s)
  | _, _, _, .nil => .nil
  | _, _, 0, .cons _ t => .cons r t
  | _, _, i + 1, .cons q t => .cons q (Sl.set r i t)
/-- a told slot holds something -/
def Sd.full : Sd → Bool
  | .no => false
  | .any => false
  | _ => true
theorem SlO.some {F : Hp} {o : Option V} {s : Sd} (h : SlO F o s) (f : s.full = true) : ∃ v, o = some v ∧ SlV F v s := by
  cases o with
  | none => cases s <;> first | exact h.elim | cases f
  | some v => exact ⟨v, rfl, h⟩
theorem SlA.length {F : Hp} {vs : List V} {ss : List Sd} (h : SlA F vs ss) : vs.length = ss.length := Paired.length h
theorem SlA.append {F : Hp} : ∀ {vs ws : List V} {ss ts : List Sd}, SlA F vs ss → SlA F ws ts → SlA F (vs ++ ws) (ss ++ ts)
  | _, _, _, _, .nil, k => k
  | _, _, _, _, .cons r t, k => .cons r (SlA.append t k)
theorem SlA.rep {F : Hp} : ∀ {ds : List PyData} {vs : List V}, SlA F vs (ds.map Sd.d) → RepA F vs ds
  | [], _, h => by cases h; exact .nil
  | d :: ds, _, h => by cases h with | cons r t => exact .cons r (SlA.rep t)
theorem RepA.sl {F : Hp} : ∀ {ds : List PyData} {vs : List V}, RepA F vs ds → SlA F vs (ds.map Sd.d)
  | _, _, .nil => .nil
  | _, _, .cons r t => .cons r (RepA.sl t)
theorem SlA.get {F : Hp} : ∀ {vs : List V} {ss : List Sd} {i : Nat} {s : Sd}, SlA F vs ss → ss[i]? = some s → ∃ v, vs[i]? = some v ∧ SlV F v s
  | _, _, _, _, .nil, e => by simp at e
  | _, _, 0, _, .cons r _, e => by simp at e; subst e; exact ⟨_, rfl, r⟩
  | _, _, i + 1, _, .cons _ t, e => by
    obtain ⟨o, h1, h2⟩ := SlA.get (i := i) t (by simpa using e)
    exact ⟨o, by simpa using h1, h2⟩
theorem SlA.get' {F : Hp} : ∀ {vs : List V} {ss : List Sd} {i : Nat} {v : V}, SlA F vs ss → vs[i]? = some v → ∃ s, ss[i]? = some s ∧ SlV F v s
  | _, _, _, _, .nil, e => by simp at e
  | _, _, 0, _, .cons r _, e => by simp at e; subst e; exact ⟨_, rfl, r⟩
  | _, _, i + 1, _, .cons _ t, e => by
    obtain ⟨o, h1, h2⟩ := SlA.get' (i := i) t (by simpa using e)
    exact ⟨o, by simpa using h1, h2⟩
theorem SlA.set {F : Hp} {v : V} {s : Sd} (r : SlV F v s) : ∀ {vs : List V} {ss : List Sd} (i : Nat), SlA F vs ss → SlA F (vs.set i v) (ss.set i s)
  | _, _, _, .nil => .nil
  | _, _, 0, .cons _ t => .cons r t
  | _, _, i + 1, .cons q t => .cons q (SlA.set r i t)
theorem SlA.eraseIdx {F : Hp} : ∀ {vs : List V} {ss : List Sd} (i : Nat), SlA F vs ss → SlA F (vs.eraseIdx i) (ss.eraseIdx i)
  | _, _, _, .nil => .nil
  | _, _, 0, .cons _ t => t
  | _, _, i + 1, .cons q t => .cons q (SlA.eraseIdx i t)
theorem SlA.take {F : Hp} : ∀ {vs : List V} {ss : List Sd} (n : Nat), SlA F vs ss → SlA F (vs.take n) (ss.take n)
  | _, _, 0, _ => .nil
  | _, _, _ + 1, .nil => .nil
  | _, _, n + 1, .cons r t => .cons r (SlA.take n t)
theorem SlA.drop {F : Hp} : ∀ {vs : List V} {ss : List Sd} (n : Nat), SlA F vs ss → SlA F (vs.drop n) (ss.drop n)
  | _, _, 0, h => h
  | _, _, _ + 1, .nil => .nil
  | _, _, n + 1, .cons r t => SlA.drop n t
theorem SlA.reverse {F : Hp} {vs : List V} {ss : List Sd} (h : SlA F vs ss) : SlA F vs.reverse ss.reverse := by
  induction h with
  | nil => exact .nil
  | cons r t ih => rw [List.reverse_cons, List.reverse_cons]; exact ih.append (.cons r .nil)

/-! ### cells: what may change -/
inductive Cd
  | lst (ds : List Sd)
  | dk (kvs : List (Key × Sd))
  | dt (kvs : List (List Key × Sd))
  | raw (o : HO)
abbrev KvA {κ : Type} (F : Hp) : List (κ × V) → List (κ × Sd) → Prop := Paired fun p q => p.1 = q.1 ∧ SlV F p.2 q.2
def NT (u : HO) : Prop := ∀ ys, u ≠ .tup ys
def CellOk (F : Hp) (o : HO) : Cd → Prop
  | .lst ds => ∃ xs, o = .lst xs ∧ SlA F xs ds
  | .dk kvs => ∃ vs, o = .dK vs ∧ KvA F vs kvs
  | .dt kvs => ∃ vs, o = .dT vs ∧ KvA F vs kvs
  | .raw u => o = u ∧ NT u
theorem KvA.mono {κ : Type} {F F' : Hp} (e : Ex F F') {vs : List (κ × V)} {kvs : List (κ × Sd)} (h : KvA F vs kvs) : KvA F' vs kvs := Paired.mapP h fun _ _ q => ⟨q.1, SlV.mono e q.2⟩
theorem CellOk.mono {F F' : Hp} (e : Ex F F') {o : HO} : ∀ {c : Cd}, CellOk F o c → CellOk F' o c
  | .lst ds, ⟨xs, h, r⟩ => ⟨xs, h, r.mono e⟩
  | .dk kvs, ⟨xs, h, r⟩ => ⟨xs, h, KvA.mono e r⟩
  | .dt kvs, ⟨xs, h, r⟩ => ⟨xs, h, KvA.mono e r⟩
  | .raw u, h => h

theorem CellOk.nt {F : Hp} {o : HO} : ∀ {c : Cd}, CellOk F o c → NT o
  | .lst ds, ⟨xs, h, _⟩ => fun ys z => by subst h; cases z
  | .dk kvs, ⟨xs, h, _⟩ => fun ys z => by subst h; cases z
  | .dt kvs, ⟨xs, h, _⟩ => fun ys z => by subst h; cases z
  | .raw u, ⟨h, n⟩ => h ▸ n
def IsT (H : Hp) (a : Addr) : Prop := ∃ ys, H a = some (.tup ys)
/-- where a stretch of work begins: what never changes (F), all that stands (H), values told by the way (G) -/
structure Base where
  F : Hp
  H : Hp
  G : List (V × Sd)
abbrev Cs := List (Addr × Cd)
structure St (B : Base) (Δ : List Sd) (C : Cs) (σ : L2.St) (H F : Hp) : Prop where
  ff : Ex B.F F
  fh : Ex F H
  hh : ∀ a o, a ∉ C.map (·.1) → B.H a = some o → H a = some o
  gr : ∀ a, F a ≠ none → B.F a ≠ none ∨ B.H a = none ∨ IsT B.H a
  sl : Sl F σ Δ
  ce : ∀ c ∈ C, F c.1 = none ∧ ∃ o, H c.1 = some o ∧ CellOk F o c.2
  nd : (C.map (·.1)).Nodup
  gg : ∀ g ∈ B.G, SlV F g.1 g.2
def StE (B : Base) (Δ : List Sd) (C : Cs) (σ : L2.St) (H : Hp) : Prop := ∃ F, St B Δ C σ H F

section
variable {B : Base} {Δ : List Sd} {C : Cs} {σ : L2.St} {H F : Hp}
theorem St.cell (h : St B Δ C σ H F) {k : Nat} {l : Addr} {c : Cd} (e : C[k]? = some (l, c)) : F l = none ∧ ∃ o, H l = some o ∧ CellOk F o c := h.ce (l, c) (List.mem_of_getElem? e)
/-- a tuple now was one at the start, or wasn't there -/
theorem St.isT (h : St B Δ C σ H F) {a : Addr} (t : IsT H a) : B.H a = none ∨ IsT B.H a := by
  cases e : B.H a with
  | none => exact .inl rfl
  | some o =>
    obtain ⟨ys, hy⟩ := t
    by_cases n : a ∈ C.map (·.1)
    · obtain ⟨c, hc, rfl⟩ := List.mem_map.mp n
      obtain ⟨_, o, h2, h3⟩ := h.ce c hc
      rw [h2] at hy
      exact absurd (Option.some.inj hy) (h3.nt ys)
    · have := h.hh a o n e
      rw [hy] at this
      exact .inr ⟨ys, by rw [e, ← this]⟩
/-- both grow -/
theorem St.grow (h : St B Δ C σ H F) {F' H' : Hp} (e : Ex F F') (e1 : Ex H H') (e2 : Ex F' H') (g : ∀ a, F' a ≠ none → F a ≠ none ∨ H a = none ∨ IsT H a) (hB : ∀ a, H a = none → B.H a = none) : St B Δ C σ H' F' where
  ff := h.ff.trans e
  fh := e2
  hh := fun a o n q => e1 a o (h.hh a o n q)
  gr := fun a n => by
    rcases g a n with q | q | q
    · exact h.gr a q
    · exact .inr (.inl (hB a q))
    · exact .inr (h.isT q)
  sl := h.sl.mono e
  ce := fun c hc => by
    obtain ⟨h1, o, h2, h3⟩ := h.ce c hc
    refine ⟨?_, o, e1 _ _ h2, h3.mono e⟩
    cases q : F' c.1 with
    | none => rfl
    | some u =>
      rcases g c.1 (by rw [q]; simp) with z | z | ⟨ys, z⟩
      · exact absurd h1 z
      · rw [h2] at z; cases z
      · rw [h2] at z; exact absurd (Option.some.inj z) (h3.nt ys)
  nd := h.nd
  gg := fun g hg => (h.gg g hg).mono e
/-- what is free now was free at the start -/
theorem St.free (h : St B Δ C σ H F) {a : Addr} (q : H a = none) : B.H a = none := by
  cases e : B.H a with
  | none => rfl
  | some o =>
    by_cases n : a ∈ C.map (·.1)
    · obtain ⟨c, hc, rfl⟩ := List.mem_map.mp n
      obtain ⟨_, o, h2, _⟩ := h.ce c hc
      rw [h2] at q; cases q
    · rw [h.hh a o n e] at q; cases q
theorem St.free' {C' : Cs} {H0 F0 : Hp} (h' : St B Δ C' σ H F) (h : St B Δ C σ H0 F0) {a : Addr} (q : H0 a = none) : B.H a = none := h.free q
theorem St.freeF (h : St B Δ C σ H F) {a : Addr} (q : H a = none) : F a = none := by
  cases e : F a with
  | none => rfl
  | some o => rw [h.fh a o e] at q; cases q
/-- a new object that never changes -/
theorem St.new (h : St B Δ C σ H F) {p : Addr} (hp : H p = none) (o : HO) : St B Δ C σ (upd H p o) (upd F p o) ∧ Ex F (upd F p o) ∧ Ex H (upd H p o) := by
  have fp := h.freeF hp
  refine ⟨h.grow (Ex.new fp) (Ex.new hp) ?_ ?_ fun a q => h.free q, Ex.new fp, Ex.new hp⟩
  · intro a u e
    by_cases ha : a = p
    · subst ha; rw [upd_same] at e; rw [upd_same]; exact e
    · rw [upd_ne ha] at e; rw [upd_ne ha]; exact h.fh a u e
  · intro a n
    by_cases ha : a = p
    · subst ha; exact .inr (.inl hp)
    · rw [upd_ne ha] at n; exact .inl n
/-- a new cell -/
theorem St.newC (h : St B Δ C σ H F) {p : Addr} (hp : H p = none) {o : HO} {c : Cd} (hc : CellOk F o c) : St B Δ ((p, c) :: C) σ (upd H p o) F where
  ff := h.ff
  fh := fun a u e => by rw [upd_ne (ne_of_none (h.fh a u e) hp)]; exact h.fh a u e
  hh := fun a u n q => by
    have na : a ≠ p := fun z => n (by rw [z]; exact List.mem_cons_self)
    rw [upd_ne na]
    exact h.hh a u (fun z => n (List.mem_cons_of_mem _ z)) q
  gr := h.gr
  sl := h.sl
  ce := fun x hx => by
    rcases List.mem_cons.mp hx with rfl | hx
    · exact ⟨h.freeF hp, o, upd_same, hc⟩
    · obtain ⟨h1, u, h2, h3⟩ := h.ce x hx
      exact ⟨h1, u, by rw [upd_ne (ne_of_none h2 hp)]; exact h2, h3⟩
  nd := by
    refine List.nodup_cons.mpr ⟨fun z => ?_, h.nd⟩
    obtain ⟨x, hx, e⟩ := List.mem_map.mp z
    obtain ⟨_, u, h2, _⟩ := h.ce x hx
    rw [e, hp] at h2; cases h2
  gg := h.gg
theorem map_set_fst (C : Cs) (k : Nat) (l : Addr) (c c' : Cd) (e : C[k]? = some (l, c)) : (C.set k (l, c')).map (·.1) = C.map (·.1) := by
  induction C generalizing k with
  | nil => simp at e
  | cons x C ih =>
    cases k with
    | zero => simp at e; subst e; rfl
    | succ k => simp at e; simp [ih k e]
/-- a cell changes -/
theorem St.put (h : St B Δ C σ H F) {k : Nat} {l : Addr} {c c' : Cd} (e : C[k]? = some (l, c)) {o : HO} (hc : CellOk F o c') : St B Δ (C.set k (l, c')) σ (upd H l o) F := by
  obtain ⟨f0, u, hu, _⟩ := h.cell e
  refine ⟨h.ff, fun a v q => ?_, fun a v n q => ?_, h.gr, h.sl, fun x hx => ?_, ?_, h.gg⟩
  · rw [upd_ne (fun z => by rw [z, f0] at q; cases q)]; exact h.fh a v q
  · rw [map_set_fst C k l c c' e] at n
    have na : a ≠ l := fun z => n (List.mem_map.mpr ⟨(l, c), List.mem_of_getElem? e, z.symm⟩)
    rw [upd_ne na]; exact h.hh a v n q
  · obtain ⟨i, hi, ex⟩ := List.getElem_of_mem hx
    rw [List.length_set] at hi
    rw [List.getElem_set] at ex
    by_cases ik : k = i
    · rw [if_pos ik] at ex
      subst ex
      exact ⟨f0, o, upd_same, hc⟩
    · rw [if_neg ik] at ex
      have hx' : x ∈ C := by rw [← ex]; exact List.getElem_mem _
      obtain ⟨h1, v, h2, h3⟩ := h.ce x hx'
      have nx : x.1 ≠ l := fun z => by
        have h5 : (C.map (·.1))[i]? = some l := by rw [List.getElem?_map, List.getElem?_eq_getElem hi, ex]; simp [z]
        have h6 : (C.map (·.1))[k]? = some l := by rw [List.getElem?_map, e]; rfl
        have hk : k < (C.map (·.1)).length := (List.getElem?_eq_some_iff.mp h6).1
        exact ik ((List.getElem?_inj hk h.nd).mp (by rw [h5, h6]))
      exact ⟨h1, v, by rw [upd_ne nx]; exact h2, h3⟩
  · rw [map_set_fst C k l c c' e]; exact h.nd
/-- a tuple that stands is told of -/
theorem St.absorb (h : St B Δ C σ H F) {b : Addr} {ys : List V} (hb : H b = some (.tup ys)) : St B Δ C σ H (upd F b (.tup ys)) ∧ Ex F (upd F b (.tup ys)) := by
  have ex : Ex F (upd F b (.tup ys)) := fun a o e => by
    by_cases ha : a = b
    · subst ha; rw [upd_same]; rw [h.fh _ _ e] at hb; exact hb.symm
    · rw [upd_ne ha]; exact e
  refine ⟨h.grow ex (Ex.refl H) (fun a o e => ?_) (fun a n => ?_) (fun a q => h.free q), ex⟩
  · by_cases ha : a = b
    · subst ha; rw [upd_same] at e; cases e; exact hb
    · rw [upd_ne ha] at e; exact h.fh _ _ e
  · by_cases ha : a = b
    · subst ha; exact .inr (.inr ⟨ys, hb⟩)
    · rw [upd_ne ha] at n; exact .inl n
/-- a cell of our own is let go: it changes no more -/
theorem St.frz (h : St B Δ C σ H F) {k : Nat} {l : Addr} {c : Cd} (e : C[k]? = some (l, c)) (hB : B.H l = none) : ∃ o, H l = some o ∧ CellOk F o c ∧ Ex F (upd F l o) ∧ St B Δ (C.eraseIdx k) σ H (upd F l o) := by
  obtain ⟨f0, u, hu, hk⟩ := h.cell e
  have ex : Ex F (upd F l u) := Ex.new f0
  have hk' : k < C.length := (List.getElem?_eq_some_iff.mp e).1
  refine ⟨u, hu, hk, ex, h.ff.trans ex, fun a v q => ?_, fun a v n q => ?_, fun a n => ?_, h.sl.mono ex, fun x hx => ?_, ?_, fun g hg => (h.gg g hg).mono ex⟩
  · by_cases ha : a = l
    · subst ha; rw [upd_same] at q; cases q; exact hu
    · rw [upd_ne ha] at q; exact h.fh a v q
  · by_cases ha : a = l
    · subst ha; rw [hB] at q; cases q
    · refine h.hh a v (fun z => n ?_) q
      obtain ⟨x, hx, rfl⟩ := List.mem_map.mp z
      obtain ⟨i, hi, ex'⟩ := List.getElem_of_mem hx
      have ik : i ≠ k := fun z => by
        subst z
        rw [List.getElem?_eq_getElem hi, ex'] at e
        cases e; exact ha rfl
      refine List.mem_map.mpr ⟨x, ?_, rfl⟩
      rw [List.mem_eraseIdx_iff_getElem?]
      exact ⟨i, ik, by rw [List.getElem?_eq_getElem hi, ex']⟩
  · by_cases ha : a = l
    · subst ha; exact .inr (.inl hB)
    · rw [upd_ne ha] at n; exact h.gr a n
  · have hx2 : x ∈ C := List.mem_of_mem_eraseIdx hx
    obtain ⟨h1, v, h2, h3⟩ := h.ce x hx2
    have nx : x.1 ≠ l := fun z => by
      rw [List.mem_eraseIdx_iff_getElem?] at hx
      obtain ⟨i, ik, ei⟩ := hx
      have h5 : (C.map (·.1))[i]? = some l := by rw [List.getElem?_map, ei]; simp [z]
      have h6 : (C.map (·.1))[k]? = some l := by rw [List.getElem?_map, e]; rfl
      have hk2 : i < (C.map (·.1)).length := (List.getElem?_eq_some_iff.mp h5).1
      exact ik ((List.getElem?_inj hk2 h.nd).mp (by rw [h5, h6]))
    exact ⟨by rw [upd_ne nx]; exact h1, v, h2, h3.mono ex⟩
  · exact List.Nodup.sublist (List.Sublist.map _ (List.eraseIdx_sublist C k)) h.nd
end

/-! ### what an expression is worth -/
def Post (B : Base) (Δ : List Sd) (C : Cs) (σ : L2.St) (H F : Hp) (s : Sd) (Q : VK) : Prop := ∀ v F' H', St B Δ C σ H' F' → Ex F F' → Ex H H' → SlV F' v s → Q v H'
def PostN (B : Base) (Δ : List Sd) (C : Cs) (σ : L2.St) (H F : Hp) (c : Cd) (Q : VK) : Prop := ∀ p F' H', St B Δ ((p, c) :: C) σ H' F' → Ex F F' → Ex H H' → H p = none → Q (.ref p) H'
def PostA (B : Base) (Δ : List Sd) (C : Cs) (σ : L2.St) (H F : Hp) (ss : List Sd) (Q : List V → Hp → Prop) : Prop := ∀ vs F' H', St B Δ C σ H' F' → Ex F F' → Ex H H' → SlA F' vs ss → Q vs H'
def PostT (B : Base) (Δ : List Sd) (C : Cs) (σ : L2.St) (H F : Hp) (b : Bool) (Q : Bool → Hp → Prop) : Prop := ∀ F' H', St B Δ C σ H' F' → Ex F F' → Ex H H' → Q b H'
def PostO (B : Base) (Δ : List Sd) (C : Cs) (σ : L2.St) (H F : Hp) (o : Option Int) (Q : Option Int → Hp → Prop) : Prop := ∀ F' H', St B Δ C σ H' F' → Ex F F' → Ex H H' → Q o H'
def Ev (B : Base) (Δ : List Sd) (C : Cs) (te : TE) (s : Sd) : Prop := ∀ σ H F, St B Δ C σ H F → ∀ Q, Post B Δ C σ H F s Q → te σ H Q
def EvN (B : Base) (Δ : List Sd) (C : Cs) (te : TE) (c : Cd) : Prop := ∀ σ H F, St B Δ C σ H F → ∀ Q, PostN B Δ C σ H F c Q → te σ H Q
def EvA (B : Base) (Δ : List Sd) (C : Cs) (ta : TA) (ss : List Sd) : Prop := ∀ σ H F, St B Δ C σ H F → ∀ Q, PostA B Δ C σ H F ss Q → ta σ H Q
def EvT (B : Base) (Δ : List Sd) (C : Cs) (tt : TT) (b : Bool) : Prop := ∀ σ H F, St B Δ C σ H F → ∀ Q, PostT B Δ C σ H F b Q → tt σ H Q
def EvO (B : Base) (Δ : List Sd) (C : Cs) (to : TO) (o : Option Int) : Prop := ∀ σ H F, St B Δ C σ H F → ∀ Q, PostO B Δ C σ H F o Q → to σ H Q
/-- operations by values -/
def RV (B : Base) (Δ : List Sd) (C : Cs) (r : R2) (s t u : Sd) : Prop := ∀ σ H F, St B Δ C σ H F → ∀ x y, SlV F x s → SlV F y t → ∀ Q, Post B Δ C σ H F u Q → r x y H Q
def RVN (B : Base) (Δ : List Sd) (C : Cs) (r : R2) (s t : Sd) (c : Cd) : Prop := ∀ σ H F, St B Δ C σ H F → ∀ x y, SlV F x s → SlV F y t → ∀ Q, PostN B Δ C σ H F c Q → r x y H Q
def RU (B : Base) (Δ : List Sd) (C : Cs) (r : V → Hp → VK → Prop) (s u : Sd) : Prop := ∀ σ H F, St B Δ C σ H F → ∀ x, SlV F x s → ∀ Q, Post B Δ C σ H F u Q → r x H Q
def RC (B : Base) (Δ : List Sd) (C : Cs) (r : List V → Hp → VK → Prop) (ss : List Sd) (u : Sd) : Prop := ∀ σ H F, St B Δ C σ H F → ∀ xs, SlA F xs ss → ∀ Q, Post B Δ C σ H F u Q → r xs H Q
def RCN (B : Base) (Δ : List Sd) (C : Cs) (r : List V → Hp → VK → Prop) (ss : List Sd) (c : Cd) : Prop := ∀ σ H F, St B Δ C σ H F → ∀ xs, SlA F xs ss → ∀ Q, PostN B Δ C σ H F c Q → r xs H Q

section
variable {B : Base} {Δ : List Sd} {C : Cs} {σ : L2.St} {H F : Hp} {ta tb te tx : TE} {t u : TT} {s s1 s2 s3 : Sd} {K : PySem.W.Frag}
theorem Post.now {Q : VK} (h : St B Δ C σ H F) (q : Post B Δ C σ H F s Q) {v : V} (e : SlV F v s) : Q v H := q v F H h (Ex.refl F) (Ex.refl H) e
theorem PostT.now {b : Bool} {Q : Bool → Hp → Prop} (h : St B Δ C σ H F) (q : PostT B Δ C σ H F b Q) : Q b H := q F H h (Ex.refl F) (Ex.refl H)
theorem Post.later {F1 H1 : Hp} {Q : VK} (q : Post B Δ C σ H F s Q) (e : Ex F F1) (e' : Ex H H1) : Post B Δ C σ H1 F1 s Q := fun v F' H' h a b w => q v F' H' h (e.trans a) (e'.trans b) w
theorem PostN.later {F1 H1 : Hp} {c : Cd} {Q : VK} (q : PostN B Δ C σ H F c Q) (e : Ex F F1) (e' : Ex H H1) : PostN B Δ C σ H1 F1 c Q := fun v F' H' h a b w => q v F' H' h (e.trans a) (e'.trans b) (fresh_back e' w)
theorem PostT.later {F1 H1 : Hp} {b : Bool} {Q : Bool → Hp → Prop} (q : PostT B Δ C σ H F b Q) (e : Ex F F1) (e' : Ex H H1) : PostT B Δ C σ H1 F1 b Q := fun F' H' h a b => q F' H' h (e.trans a) (e'.trans b)
theorem PostA.later {F1 H1 : Hp} {ss : List Sd} {Q : List V → Hp → Prop} (q : PostA B Δ C σ H F ss Q) (e : Ex F F1) (e' : Ex H H1) : PostA B Δ C σ H1 F1 ss Q := fun vs F' H' h a b w => q vs F' H' h (e.trans a) (e'.trans b) w
/-- a new object that never changes: what follows -/
theorem Post.made {Q : VK} (h : St B Δ C σ H F) (q : Post B Δ C σ H F s Q) {o : HO} (k : ∀ p, Ex F (upd F p o) → SlV (upd F p o) (.ref p) s) : ∀ p, H p = none → Q (.ref p) (upd H p o) := fun p hp => by
  obtain ⟨h1, e1, e2⟩ := h.new hp o
  exact q (.ref p) _ _ h1 e1 e2 (k p e1)
theorem PostN.made {Q : VK} {c : Cd} (h : St B Δ C σ H F) (q : PostN B Δ C σ H F c Q) {o : HO} (k : CellOk F o c) : ∀ p, H p = none → Q (.ref p) (upd H p o) := fun p hp =>
  q p _ _ (h.newC hp k) (Ex.refl F) (Ex.new hp) hp
/-- a new list that is let go at once -/
theorem PostN.of {Q : VK} {ds : List PyData} (h0 : St B Δ C σ H F) (q : Post B Δ C σ H F (.d (.list ds)) Q) : PostN B Δ C σ H F (.lst (ds.map Sd.d)) Q := fun p F' H' h e1 e2 hp => by
  obtain ⟨o, h1, h2, h3, h4⟩ := h.frz (k := 0) rfl (h0.free hp)
  obtain ⟨xs, rfl, r⟩ := h2
  exact q _ _ _ h4 (e1.trans h3) e2 (.lst upd_same (r.mono h3).rep)
theorem ev_of {te : TE} {ds : List PyData} (h : EvN B Δ C te (.lst (ds.map Sd.d))) : Ev B Δ C te (.d (.list ds)) := fun σ H F hs Q q => h σ H F hs Q (PostN.of hs q)
theorem ev_of' {te : TE} {ss : List Sd} (ds : List PyData) (h : EvN B Δ C te (.lst ss)) (e : ss = ds.map Sd.d) : Ev B Δ C te (.d (.list ds)) := ev_of (e ▸ h)
theorem ev_ofR {te : TE} {ss : List Sd} {ds : List PyData} (h : EvN B Δ C te (.lst ss)) (hr : ∀ F xs, SlA F xs ss → RepA F xs ds) : Ev B Δ C te (.d (.list ds)) := fun σ H F hs Q q => h σ H F hs Q fun p F' H' h' e1 e2 hp => by
  obtain ⟨o, h1, h2, h3, h4⟩ := h'.frz (k := 0) rfl (hs.free hp)
  obtain ⟨xs, rfl, r⟩ := h2
  exact q _ _ _ h4 (e1.trans h3) e2 (.lst upd_same (RepA.mono h3 _ _ (hr _ _ r)))
theorem ev_eq (h : Ev B Δ C te s) (e : s = s1) : Ev B Δ C te s1 := e ▸ h
theorem ev_eq' {ta : TA} {ss ss' : List Sd} (h : EvA B Δ C ta ss) (e : ss = ss') : EvA B Δ C ta ss' := e ▸ h
theorem evN_eq {c c' : Cd} (h : EvN B Δ C te c) (e : c = c') : EvN B Δ C te c' := e ▸ h
theorem evT_eq {b b' : Bool} (h : EvT B Δ C t b) (e : b = b') : EvT B Δ C t b' := e ▸ h
theorem ev_any (h : Ev B Δ C te s) : Ev B Δ C te .any := fun σ H F hs Q q => h σ H F hs Q fun v F' H' a b c _ => q v F' H' a b c trivial

/-! #### leaves -/
theorem ev_var {i : Nat} (h : Δ[i]? = some s) (f : s.full = true) : Ev B Δ C (tVar i) s := fun σ H F hs Q q => by
  obtain ⟨o, e, r⟩ := hs.sl.get h
  obtain ⟨v, rfl, r⟩ := r.some f
  exact ⟨v, e, q.now hs r⟩
theorem ev_int {i : Int} : Ev B Δ C (tC (.int i)) (.d (.int i)) := fun _ _ _ hs _ q => q.now hs (.int i)
theorem ev_bl {i : Bool} : Ev B Δ C (tC (.bl i)) (.d (.bool i)) := fun _ _ _ hs _ q => q.now hs (.bl i)
theorem ev_str {i : Str} : Ev B Δ C (tC (.str i)) (.d (.str i)) := fun _ _ _ hs _ q => q.now hs (.str i)
theorem ev_non : Ev B Δ C (tC .non) (.d .none) := fun _ _ _ hs _ q => q.now hs .non
theorem ev_cv {v : V} : Ev B Δ C (tC v) (.v v) := fun _ _ _ hs _ q => q.now hs rfl

/-! #### operators -/
theorem ev_op {r : R2} (ha : Ev B Δ C ta s1) (hb : Ev B Δ C tb s2) (hr : RV B Δ C r s1 s2 s3) : Ev B Δ C (tOp r ta tb) s3 := fun σ H F hs Q q =>
  ha σ H F hs _ fun x F1 H1 h1 e1 e1' w1 => hb σ H1 F1 h1 _ fun y F2 H2 h2 e2 e2' w2 => hr σ H2 F2 h2 x y (w1.mono e2) w2 Q (q.later (e1.trans e2) (e1'.trans e2'))
theorem evN_op {r : R2} {c : Cd} (ha : Ev B Δ C ta s1) (hb : Ev B Δ C tb s2) (hr : RVN B Δ C r s1 s2 c) : EvN B Δ C (tOp r ta tb) c := fun σ H F hs Q q =>
  ha σ H F hs _ fun x F1 H1 h1 e1 e1' w1 => hb σ H1 F1 h1 _ fun y F2 H2 h2 e2 e2' w2 => hr σ H2 F2 h2 x y (w1.mono e2) w2 Q (q.later (e1.trans e2) (e1'.trans e2'))
theorem ev_un {r : V → Hp → VK → Prop} (ha : Ev B Δ C ta s1) (hr : RU B Δ C r s1 s2) : Ev B Δ C (tUn r ta) s2 := fun σ H F hs Q q =>
  ha σ H F hs _ fun x F1 H1 h1 e1 e1' w1 => hr σ H1 F1 h1 x w1 Q (q.later e1 e1')
theorem rv_or1 {r r' : R2} (h : RV B Δ C r s1 s2 s3) : RV B Δ C (fun x y H Q => r x y H Q ∨ r' x y H Q) s1 s2 s3 := fun σ H F hs x y h1 h2 Q q => .inl (h σ H F hs x y h1 h2 Q q)
theorem rv_or2 {r r' : R2} (h : RV B Δ C r' s1 s2 s3) : RV B Δ C (fun x y H Q => r x y H Q ∨ r' x y H Q) s1 s2 s3 := fun σ H F hs x y h1 h2 Q q => .inr (h σ H F hs x y h1 h2 Q q)
theorem rv_ii {g : Int → Int → Int} {i j : Int} : RV B Δ C (rI0 fun i j => .int (g i j)) (.d (.int i)) (.d (.int j)) (.d (.int (g i j))) := fun σ H F hs x y h1 h2 Q q => by
  cases h1; cases h2
  exact ⟨i, j, rfl, rfl, q.now hs (.int _)⟩
theorem rv_ib {g : Int → Int → Bool} {i j : Int} : RV B Δ C (rI0 fun i j => .bl (g i j)) (.d (.int i)) (.d (.int j)) (.d (.bool (g i j))) := fun σ H F hs x y h1 h2 Q q => by
  cases h1; cases h2
  exact ⟨i, j, rfl, rfl, q.now hs (.bl _)⟩
theorem rv_iC {P : Int → Int → Prop} {g : Int → Int → Int} {i j : Int} (hp : P i j) : RV B Δ C (rI P fun i j => .int (g i j)) (.d (.int i)) (.d (.int j)) (.d (.int (g i j))) := fun σ H F hs x y h1 h2 Q q => by
  cases h1; cases h2
  exact ⟨i, j, rfl, rfl, hp, q.now hs (.int _)⟩
theorem ru_i {g : Int → Int} {i : Int} : RU B Δ C (rU fun i => .int (g i)) (.d (.int i)) (.d (.int (g i))) := fun σ H F hs x h1 Q q => by
  cases h1
  exact ⟨i, rfl, q.now hs (.int _)⟩
/-- flat data -/
def flatD : PyData → Bool
  | .none => true
  | .bool _ => true
  | .int _ => true
  | .str _ => true
  | _ => false
def vOf : PyData → V
  | .bool b => .bl b
  | .int i => .int i
  | .str x => .str x
  | _ => .non
theorem Rep.flat {F : Hp} {v : V} {d : PyData} (h : Rep F v d) (f : flatD d = true) : v = vOf d := by cases h <;> first | rfl | cases f
theorem rv_eqFl {a b : PyData} (fa : flatD a = true) (fb : flatD b = true) (hs : scal (vOf a) (vOf b) = true) : RV B Δ C rEq (.d a) (.d b) (.d (.bool (decide (vOf a = vOf b)))) := fun σ H F h x y h1 h2 Q q => by
  cases Rep.flat h1 fa
  cases Rep.flat h2 fb
  exact ⟨hs, q.now h (.bl _)⟩
theorem rv_neFl {a b : PyData} (fa : flatD a = true) (fb : flatD b = true) (hs : scal (vOf a) (vOf b) = true) : RV B Δ C rNe (.d a) (.d b) (.d (.bool (!decide (vOf a = vOf b)))) := fun σ H F h x y h1 h2 Q q => by
  cases Rep.flat h1 fa
  cases Rep.flat h2 fb
  exact ⟨hs, q.now h (.bl _)⟩
theorem rv_eqI {i j : Int} : RV B Δ C rEq (.d (.int i)) (.d (.int j)) (.d (.bool (decide (i = j)))) := fun σ H F h x y h1 h2 Q q => by
  cases h1; cases h2
  refine ⟨rfl, ?_⟩
  have e : decide (V.int i = V.int j) = decide (i = j) := by by_cases z : i = j <;> simp [z]
  rw [e]; exact q.now h (.bl _)
theorem rv_neI {i j : Int} : RV B Δ C rNe (.d (.int i)) (.d (.int j)) (.d (.bool (!decide (i = j)))) := fun σ H F h x y h1 h2 Q q => by
  cases h1; cases h2
  refine ⟨rfl, ?_⟩
  have e : decide (V.int i = V.int j) = decide (i = j) := by by_cases z : i = j <;> simp [z]
  rw [e]; exact q.now h (.bl _)
theorem rv_eqS {i j : Str} : RV B Δ C rEq (.d (.str i)) (.d (.str j)) (.d (.bool (decide (i = j)))) := fun σ H F h x y h1 h2 Q q => by
  cases h1; cases h2
  refine ⟨rfl, ?_⟩
  have e : decide (V.str i = V.str j) = decide (i = j) := by by_cases z : i = j <;> simp [z]
  rw [e]; exact q.now h (.bl _)
theorem rv_neS {i j : Str} : RV B Δ C rNe (.d (.str i)) (.d (.str j)) (.d (.bool (!decide (i = j)))) := fun σ H F h x y h1 h2 Q q => by
  cases h1; cases h2
  refine ⟨rfl, ?_⟩
  have e : decide (V.str i = V.str j) = decide (i = j) := by by_cases z : i = j <;> simp [z]
  rw [e]; exact q.now h (.bl _)
/-- None at all: x is None -/
def isNoneD : PyData → Bool
  | .none => true
  | _ => false
theorem Rep.isNone {F : Hp} {v : V} {d : PyData} (h : Rep F v d) : decide (v = .non) = isNoneD d := by cases h <;> rfl
theorem rv_isN {d : PyData} : RV B Δ C (fun x y H Q => y = .non ∧ Q (.bl (decide (x = .non))) H) (.d d) (.d .none) (.d (.bool (isNoneD d))) := fun σ H F h x y h1 h2 Q q => by
  cases h2
  refine ⟨rfl, ?_⟩
  rw [Rep.isNone h1]; exact q.now h (.bl _)
theorem rv_notN {d : PyData} : RV B Δ C (fun x y H Q => y = .non ∧ Q (.bl (!decide (x = .non))) H) (.d d) (.d .none) (.d (.bool (!isNoneD d))) := fun σ H F h x y h1 h2 Q q => by
  cases h2
  refine ⟨rfl, ?_⟩
  rw [Rep.isNone h1]; exact q.now h (.bl _)
/-- data == data, at any depth -/
theorem rv_eqD {a b : PyData} (sa : SeqAt.shaped a = true) (sb : SeqAt.shaped b = true) : RV B Δ C (rEqD K) (.d a) (.d b) (.d (.bool (PyData.eqv a b))) := fun σ H F h x y h1 h2 Q q =>
  ⟨a, b, (Rep.mono h.fh _ _ h1).dp, (Rep.mono h.fh _ _ h2).dp, sa, sb, q.now h (.bl _)⟩
theorem rv_neD {a b : PyData} (sa : SeqAt.shaped a = true) (sb : SeqAt.shaped b = true) : RV B Δ C (rNeD K) (.d a) (.d b) (.d (.bool (!PyData.eqv a b))) := fun σ H F h x y h1 h2 Q q =>
  ⟨a, b, (Rep.mono h.fh _ _ h1).dp, (Rep.mono h.fh _ _ h2).dp, sa, sb, q.now h (.bl _)⟩

/-- cells of data told as data, for == -/
theorem cell_dp0 {k : Nat} {l : Addr} {ds : List PyData} (hs : St B Δ C σ H F) (hc : C[k]? = some (l, .lst (ds.map Sd.d))) : Dp K H (.ref l) (.list ds) := by
  obtain ⟨_, o, ho, xs, rfl, r⟩ := hs.cell hc
  exact .lst (SqL.of ho) (RepA.dp _ _ (RepA.mono hs.fh _ _ r.rep))
/-- a value that reads as data now -/
def Now (K : PySem.W.Frag) (B : Base) (Δ : List Sd) (C : Cs) (s : Sd) (d : PyData) : Prop := ∀ σ H F v, St B Δ C σ H F → SlV F v s → Dp K H v d
theorem now_d {d : PyData} : Now K B Δ C (.d d) d := fun σ H F v hs h => (Rep.mono hs.fh _ _ h).dp
theorem now_c (k : Nat) {l : Addr} {ds : List PyData} (hc : C[k]? = some (l, .lst (ds.map Sd.d))) : Now K B Δ C (.v (.ref l)) (.list ds) := fun σ H F v hs h => by cases h; exact cell_dp0 hs hc
theorem rv_eqW {a b : PyData} (h1 : Now K B Δ C s1 a) (h2 : Now K B Δ C s2 b) (sa : SeqAt.shaped a = true) (sb : SeqAt.shaped b = true) : RV B Δ C (rEqD K) s1 s2 (.d (.bool (PyData.eqv a b))) := fun σ H F h x y w1 w2 Q q =>
  ⟨a, b, h1 σ H F x h w1, h2 σ H F y h w2, sa, sb, q.now h (.bl _)⟩
theorem rv_neW {a b : PyData} (h1 : Now K B Δ C s1 a) (h2 : Now K B Δ C s2 b) (sa : SeqAt.shaped a = true) (sb : SeqAt.shaped b = true) : RV B Δ C (rNeD K) s1 s2 (.d (.bool (!PyData.eqv a b))) := fun σ H F h x y w1 w2 Q q =>
  ⟨a, b, h1 σ H F x h w1, h2 σ H F y h w2, sa, sb, q.now h (.bl _)⟩

/-! #### items -/
theorem atI_rep {F : Hp} {xs : List V} {ds : List PyData} (r : RepA F xs ds) {i : Int} {d : PyData} (h : atI ds i = some d) : ∃ v, atI xs i = some v ∧ Rep F v d := by
  unfold atI at h ⊢
  rw [r.length]
  cases e : ixN ds.length i with
  | none => rw [e] at h; cases h
  | some j =>
    rw [e] at h
    obtain ⟨v, h1, h2⟩ := r.get' (i := j) (d := d) h
    exact ⟨v, h1, h2⟩
theorem atI_sl {F : Hp} {xs : List V} {ds : List Sd} (r : SlA F xs ds) {i : Int} {d : Sd} (h : atI ds i = some d) : ∃ v, atI xs i = some v ∧ SlV F v d := by
  unfold atI at h ⊢
  rw [r.length]
  cases e : ixN ds.length i with
  | none => rw [e] at h; cases h
  | some j =>
    rw [e] at h
    obtain ⟨v, h1, h2⟩ := r.get (i := j) (s := d) h
    exact ⟨v, h1, h2⟩
theorem atI_map {α β : Type} (f : α → β) {xs : List α} {i : Int} {x : α} (h : atI xs i = some x) : atI (xs.map f) i = some (f x) := by
  unfold atI at h ⊢
  rw [List.length_map]
  cases e : ixN xs.length i with
  | none => rw [e] at h; cases h
  | some j =>
    rw [e] at h
    have h : xs[j]? = some x := h
    show (xs.map f)[j]? = some (f x)
    rw [List.getElem?_map, h]; rfl
theorem rv_ixL {ds : List PyData} {i : Int} {d : PyData} (h : atI ds i = some d) : RV B Δ C (rIxL K) (.d (.list ds)) (.d (.int i)) (.d d) := fun σ H F hs x y h1 h2 Q q => by
  cases h2
  obtain ⟨a, xs, rfl, e, r⟩ := Rep.lst_inv h1
  obtain ⟨v, hv, w⟩ := atI_rep r h
  exact ⟨a, xs, i, v, rfl, rfl, SqL.of (hs.fh _ _ e), hv, q.now hs w⟩
theorem rv_ixT {ds : List PyData} {i : Int} {d : PyData} (h : atI ds i = some d) : RV B Δ C (rIxT K) (.d (.tuple ds)) (.d (.int i)) (.d d) := fun σ H F hs x y h1 h2 Q q => by
  cases h2
  obtain ⟨a, xs, rfl, e, r⟩ := Rep.tup_inv h1
  obtain ⟨v, hv, w⟩ := atI_rep r h
  exact ⟨a, xs, i, v, rfl, rfl, SqT.of (hs.fh _ _ e), hv, q.now hs w⟩
/-- an item of a cell -/
theorem rv_ixC {k : Nat} {l : Addr} {ss : List Sd} {i : Int} (hc : C[k]? = some (l, .lst ss)) (h : atI ss i = some s) : RV B Δ C (rIxL K) (.v (.ref l)) (.d (.int i)) s := fun σ H F hs x y h1 h2 Q q => by
  cases h2; cases h1
  obtain ⟨_, o, ho, xs, rfl, r⟩ := hs.cell hc
  obtain ⟨v, hv, w⟩ := atI_sl r h
  exact ⟨l, xs, i, v, rfl, rfl, SqL.of ho, hv, q.now hs w⟩
/-- the script -/
def Scr (K : PySem.W.Frag) (ns : List Int) : Mono := ⟨fun F v => ∃ a, v = .ref a ∧ SqL K F a (ns.map V.int), fun F F' v e h => by obtain ⟨a, h1, h2⟩ := h; exact ⟨a, h1, ex_l e h2⟩⟩
theorem rv_ixS {ns : List Int} {i n : Int} (h : atI ns i = some n) : RV B Δ C (rIxL K) (.p (Scr K ns)) (.d (.int i)) (.d (.int n)) := fun σ H F hs x y h1 h2 Q q => by
  cases h2
  obtain ⟨a, rfl, e⟩ := h1
  exact ⟨a, _, i, _, rfl, rfl, ex_l hs.fh e, atI_map V.int h, q.now hs (.int n)⟩
theorem rv_ix1 {r1 r2 r3 : R2} (h : RV B Δ C r1 s1 s2 s3) : RV B Δ C (fun x y H Q => r1 x y H Q ∨ r2 x y H Q ∨ r3 x y H Q) s1 s2 s3 := fun σ H F hs x y h1 h2 Q q => .inl (h σ H F hs x y h1 h2 Q q)
theorem rv_ix2 {r1 r2 r3 : R2} (h : RV B Δ C r2 s1 s2 s3) : RV B Δ C (fun x y H Q => r1 x y H Q ∨ r2 x y H Q ∨ r3 x y H Q) s1 s2 s3 := fun σ H F hs x y h1 h2 Q q => .inr (.inl (h σ H F hs x y h1 h2 Q q))

theorem rv_xL {ds : List PyData} {i : Int} {d : PyData} (h : atI ds i = some d) : RV B Δ C (rIx K) (.d (.list ds)) (.d (.int i)) (.d d) := rv_ix1 (rv_ixL h)
theorem rv_xT {ds : List PyData} {i : Int} {d : PyData} (h : atI ds i = some d) : RV B Δ C (rIx K) (.d (.tuple ds)) (.d (.int i)) (.d d) := rv_ix2 (rv_ixT h)
theorem rv_xC (k : Nat) {l : Addr} {ss : List Sd} {i : Int} (hc : C[k]? = some (l, .lst ss)) (h : atI ss i = some s) : RV B Δ C (rIx K) (.v (.ref l)) (.d (.int i)) s := rv_ix1 (rv_ixC hc h)
theorem rv_xS {ns : List Int} {i n : Int} (h : atI ns i = some n) : RV B Δ C (rIx K) (.p (Scr K ns)) (.d (.int i)) (.d (.int n)) := rv_ix1 (rv_ixS h)

/-! #### in -/
theorem any_flat {F : Hp} {a : PyData} (fa : flatD a = true) : ∀ {ds : List PyData} {xs : List V}, RepA F xs ds → ds.all flatD = true → xs.all flatV = true ∧ inV (vOf a) xs = ds.any fun d => eqV (vOf d) (vOf a)
  | [], _, h, _ => by cases h; exact ⟨rfl, rfl⟩
  | d :: ds, _, h, f => by
    cases h with
    | cons h r =>
      simp only [List.all_cons, Bool.and_eq_true] at f
      cases Rep.flat h f.1
      obtain ⟨h1, h2⟩ := any_flat fa r f.2
      have hf : flatV (vOf d) = true := by cases d <;> first | rfl | cases f.1
      refine ⟨by rw [List.all_cons, hf, h1]; rfl, ?_⟩
      unfold inV at h2 ⊢
      rw [List.any_cons, List.any_cons, h2]
theorem rv_in {neg : Bool} {a : PyData} {ds : List PyData} (fa : flatD a = true) (fs : ds.all flatD = true) : RV B Δ C (rIn K neg) (.d a) (.d (.list ds)) (.d (.bool (if neg then !(ds.any fun d => eqV (vOf d) (vOf a)) else ds.any fun d => eqV (vOf d) (vOf a)))) := fun σ H F hs x y h1 h2 Q q => by
  cases Rep.flat h1 fa
  obtain ⟨p, xs, rfl, e, r⟩ := Rep.lst_inv h2
  obtain ⟨g1, g2⟩ := any_flat fa r fs
  refine ⟨p, xs, rfl, .inl (SqL.of (hs.fh _ _ e)), (by cases a <;> first | rfl | cases fa), g1, ?_⟩
  rw [g2]; exact q.now hs (.bl _)
theorem rv_inT {neg : Bool} {a : PyData} {ds : List PyData} (fa : flatD a = true) (fs : ds.all flatD = true) : RV B Δ C (rIn K neg) (.d a) (.d (.tuple ds)) (.d (.bool (if neg then !(ds.any fun d => eqV (vOf d) (vOf a)) else ds.any fun d => eqV (vOf d) (vOf a)))) := fun σ H F hs x y h1 h2 Q q => by
  cases Rep.flat h1 fa
  obtain ⟨p, xs, rfl, e, r⟩ := Rep.tup_inv h2
  obtain ⟨g1, g2⟩ := any_flat fa r fs
  refine ⟨p, xs, rfl, .inr (SqT.of (hs.fh _ _ e)), (by cases a <;> first | rfl | cases fa), g1, ?_⟩
  rw [g2]; exact q.now hs (.bl _)
/-- an int among ints -/
theorem any_ints (i : Int) (ns : List Int) : ((ns.map PyData.int).any fun d => eqV (vOf d) (vOf (.int i))) = decide (i ∈ ns) := by
  induction ns with
  | nil => rfl
  | cons n ns ih =>
    rw [List.map_cons, List.any_cons, ih]
    show ((n == i) || decide (i ∈ ns)) = decide (i ∈ n :: ns)
    by_cases e : n = i
    · subst e; simp
    · have e' : ¬ i = n := fun z => e z.symm
      simp [e, e']
theorem all_ints (ns : List Int) : (ns.map PyData.int).all flatD = true := by
  induction ns with
  | nil => rfl
  | cons n ns ih => rw [List.map_cons, List.all_cons, ih]; rfl
theorem rv_inI {i : Int} {ns : List Int} : RV B Δ C (rIn K false) (.d (.int i)) (.d (.list (ns.map .int))) (.d (.bool (decide (i ∈ ns)))) := by
  have h := rv_in (B := B) (Δ := Δ) (C := C) (K := K) (neg := false) (a := .int i) (ds := ns.map .int) rfl (all_ints ns)
  rw [any_ints] at h; exact h
theorem rv_niI {i : Int} {ns : List Int} : RV B Δ C (rIn K true) (.d (.int i)) (.d (.list (ns.map .int))) (.d (.bool (!decide (i ∈ ns)))) := by
  have h := rv_in (B := B) (Δ := Δ) (C := C) (K := K) (neg := true) (a := .int i) (ds := ns.map .int) rfl (all_ints ns)
  rw [any_ints] at h; exact h
theorem rv_inTI {i : Int} {ns : List Int} : RV B Δ C (rIn K false) (.d (.int i)) (.d (.tuple (ns.map .int))) (.d (.bool (decide (i ∈ ns)))) := by
  have h := rv_inT (B := B) (Δ := Δ) (C := C) (K := K) (neg := false) (a := .int i) (ds := ns.map .int) rfl (all_ints ns)
  rw [any_ints] at h; exact h
theorem rv_niTI {i : Int} {ns : List Int} : RV B Δ C (rIn K true) (.d (.int i)) (.d (.tuple (ns.map .int))) (.d (.bool (!decide (i ∈ ns)))) := by
  have h := rv_inT (B := B) (Δ := Δ) (C := C) (K := K) (neg := true) (a := .int i) (ds := ns.map .int) rfl (all_ints ns)
  rw [any_ints] at h; exact h
/-- an int in a cell of ints -/
theorem rv_inC {neg : Bool} {k : Nat} {l : Addr} {i : Int} {ns : List Int} (hc : C[k]? = some (l, .lst (ns.map fun n => Sd.d (.int n)))) : RV B Δ C (rIn K neg) (.d (.int i)) (.v (.ref l)) (.d (.bool (if neg then !decide (i ∈ ns) else decide (i ∈ ns)))) := fun σ H F hs x y h1 h2 Q q => by
  cases h1; cases h2
  obtain ⟨_, o, ho, xs, rfl, r⟩ := hs.cell hc
  have r' : SlA F xs ((ns.map PyData.int).map Sd.d) := by rw [List.map_map]; exact r
  obtain ⟨g1, g2⟩ := any_flat (a := .int i) rfl r'.rep (all_ints ns)
  refine ⟨l, xs, rfl, .inl (SqL.of ho), rfl, g1, ?_⟩
  have g2' : inV (.int i) xs = decide (i ∈ ns) := g2.trans (any_ints i ns)
  rw [g2']; exact q.now hs (.bl _)
/-- data in a list of data -/
theorem rv_inD {a : PyData} {ds : List PyData} (sa : SeqAt.shaped a = true) (sb : SeqAt.shaped (.list ds) = true) : RV B Δ C (rInD K) (.d a) (.d (.list ds)) (.d (.bool (ds.any fun z => PyData.eqv z a))) := fun σ H F h x y h1 h2 Q q =>
  ⟨a, ds, (Rep.mono h.fh _ _ h1).dp, (Rep.mono h.fh _ _ h2).dp, sa, sb, q.now h (.bl _)⟩
theorem rv_niD {a : PyData} {ds : List PyData} (sa : SeqAt.shaped a = true) (sb : SeqAt.shaped (.list ds) = true) : RV B Δ C (rNotInD K) (.d a) (.d (.list ds)) (.d (.bool (!ds.any fun z => PyData.eqv z a))) := fun σ H F h x y h1 h2 Q q =>
  ⟨a, ds, (Rep.mono h.fh _ _ h1).dp, (Rep.mono h.fh _ _ h2).dp, sa, sb, q.now h (.bl _)⟩
theorem cell_dp {k : Nat} {l : Addr} {ds : List PyData} (hs : St B Δ C σ H F) (hc : C[k]? = some (l, .lst (ds.map Sd.d))) : Dp K H (.ref l) (.list ds) := by
  obtain ⟨_, o, ho, xs, rfl, r⟩ := hs.cell hc
  exact .lst (SqL.of ho) (RepA.dp _ _ (RepA.mono hs.fh _ _ r.rep))
theorem rv_inDC {k : Nat} {l : Addr} {a : PyData} {ds : List PyData} (hc : C[k]? = some (l, .lst (ds.map Sd.d))) (sa : SeqAt.shaped a = true) (sb : SeqAt.shaped (.list ds) = true) : RV B Δ C (rInD K) (.d a) (.v (.ref l)) (.d (.bool (ds.any fun z => PyData.eqv z a))) := fun σ H F h x y h1 h2 Q q => by
  cases h2
  exact ⟨a, ds, (Rep.mono h.fh _ _ h1).dp, cell_dp h hc, sa, sb, q.now h (.bl _)⟩
theorem rv_niDC {k : Nat} {l : Addr} {a : PyData} {ds : List PyData} (hc : C[k]? = some (l, .lst (ds.map Sd.d))) (sa : SeqAt.shaped a = true) (sb : SeqAt.shaped (.list ds) = true) : RV B Δ C (rNotInD K) (.d a) (.v (.ref l)) (.d (.bool (!ds.any fun z => PyData.eqv z a))) := fun σ H F h x y h1 h2 Q q => by
  cases h2
  exact ⟨a, ds, (Rep.mono h.fh _ _ h1).dp, cell_dp h hc, sa, sb, q.now h (.bl _)⟩
/-- lists put together: a new one -/
theorem rv_cat {as bs : List PyData} (hz : as.length + bs.length ≤ 100000) : RVN B Δ C rCat (.d (.list as)) (.d (.list bs)) (.lst ((as ++ bs).map Sd.d)) := fun σ H F hs x y h1 h2 Q q => by
  obtain ⟨p, xs, rfl, e, r⟩ := Rep.lst_inv h1
  obtain ⟨p', xs', rfl, e', r'⟩ := Rep.lst_inv h2
  refine ⟨p, p', xs, xs', rfl, rfl, hs.fh _ _ e, hs.fh _ _ e', sz_of (by rw [r.length, r'.length]; exact hz), q.made hs ⟨_, rfl, (r.append r').sl⟩⟩

/-! #### fields -/
theorem ev_fld {m : Mono} {f : Str} (ha : Ev B Δ C ta (.p m)) (h : ∀ F v, m.φ F v → ∃ a D dx fs x, v = .ref a ∧ F a = some (.ins D dx fs) ∧ Cls K D ∧ NoAttr K D f ∧ fs.lookup f = some x ∧ SlV F x s) : Ev B Δ C (tFld K ta f) s := fun σ H F hs Q q =>
  ha σ H F hs _ fun v F' H' h1 e1 e2 w => by
    obtain ⟨a, D, dx, fs, x, rfl, h2, h3, h4, h5, h6⟩ := h F' v w
    exact ⟨a, D, dx, fs, x, rfl, h1.fh _ _ h2, h3, h4, h5, q x F' H' h1 e1 e2 h6⟩
/-- of an instance that is a cell -/
theorem ev_fldC {k : Nat} {l D dx : Addr} {fs : List (Str × V)} {f : Str} {x : V} (hc : C[k]? = some (l, .raw (.ins D dx fs))) (ha : Ev B Δ C ta (.v (.ref l))) (c : Cls K D) (n : NoAttr K D f) (e : fs.lookup f = some x) : Ev B Δ C (tFld K ta f) (.v x) := fun σ H F hs Q q =>
  ha σ H F hs _ fun v F' H' h1 e1 e2 w => by
    cases w
    obtain ⟨_, o, ho, rfl, _⟩ := h1.cell hc
    exact ⟨l, D, dx, fs, x, rfl, ho, c, n, e, q x F' H' h1 e1 e2 rfl⟩

/-! #### arguments, tuples, lists -/
theorem ea_nil : EvA B Δ C tNil [] := fun _ H F hs _ q => q [] F H hs (Ex.refl F) (Ex.refl H) .nil
theorem ea_cons {tr : TA} {ss : List Sd} (h : Ev B Δ C te s) (hr : EvA B Δ C tr ss) : EvA B Δ C (tCons te tr) (s :: ss) := fun σ H F hs Q q =>
  h σ H F hs _ fun v F1 H1 h1 e1 e1' w1 => hr σ H1 F1 h1 _ fun vs F2 H2 h2 e2 e2' w2 => q (v :: vs) F2 H2 h2 (e1.trans e2) (e1'.trans e2') (.cons (w1.mono e2) w2)
theorem ev_tup {ta : TA} {ds : List PyData} (h : EvA B Δ C ta (ds.map Sd.d)) (hz : ds.length ≤ 100000 := by simp) : Ev B Δ C (tTup ta) (.d (.tuple ds)) := fun σ H F hs Q q =>
  h σ H F hs _ fun vs F1 H1 h1 e1 e1' w1 => ⟨sz_of (by rw [w1.length, List.length_map]; exact hz), (q.later e1 e1').made h1 fun p ep => .tup upd_same (RepA.mono ep _ _ w1.rep)⟩
theorem evN_lst {ta : TA} {ss : List Sd} (h : EvA B Δ C ta ss) (hz : ss.length ≤ 100000 := by simp) : EvN B Δ C (tLst ta) (.lst ss) := fun σ H F hs Q q =>
  h σ H F hs _ fun vs F1 H1 h1 e1 e1' w1 => ⟨sz_of (by rw [w1.length]; exact hz), (q.later e1 e1').made h1 ⟨vs, rfl, w1⟩⟩
theorem ev_lst {ta : TA} {ds : List PyData} (h : EvA B Δ C ta (ds.map Sd.d)) (hz : ds.length ≤ 100000 := by simp) : Ev B Δ C (tLst ta) (.d (.list ds)) := ev_of (evN_lst h (by rw [List.length_map]; exact hz))
theorem ev_tup2 {a b : PyData} (h1 : Ev B Δ C ta (.d a)) (h2 : Ev B Δ C tb (.d b)) : Ev B Δ C (tTup (tCons ta (tCons tb tNil))) (.d (.tuple [a, b])) := ev_tup (ds := [a, b]) (ea_cons h1 (ea_cons h2 ea_nil)) (by show 2 ≤ 100000; decide)
theorem ev_lst0 : Ev B Δ C (tLst tNil) (.d (.list [])) := ev_lst (ds := []) ea_nil (by decide)
theorem ev_lst1 {a : PyData} (h1 : Ev B Δ C ta (.d a)) : Ev B Δ C (tLst (tCons ta tNil)) (.d (.list [a])) := ev_lst (ds := [a]) (ea_cons h1 ea_nil) (by show 1 ≤ 100000; decide)
theorem ev_lst2 {a b : PyData} (h1 : Ev B Δ C ta (.d a)) (h2 : Ev B Δ C tb (.d b)) : Ev B Δ C (tLst (tCons ta (tCons tb tNil))) (.d (.list [a, b])) := ev_lst (ds := [a, b]) (ea_cons h1 (ea_cons h2 ea_nil)) (by show 2 ≤ 100000; decide)
theorem evN_lst0 : EvN B Δ C (tLst tNil) (.lst []) := evN_lst ea_nil (by decide)

/-! #### slices -/
theorem eo_none : EvO B Δ C tNoPart none := fun _ H F hs _ q => q F H hs (Ex.refl F) (Ex.refl H)
theorem eo_some {i : Int} (h : Ev B Δ C te (.d (.int i))) : EvO B Δ C (tPart te) (some i) := fun σ H F hs Q q => h σ H F hs _ fun v F1 H1 h1 e1 e1' w1 => by
  cases w1
  exact ⟨i, rfl, q F1 H1 h1 e1 e1'⟩
def cutD {α : Type} (xs : List α) (lo hi : Option Int) : List α := (xs.drop (HT.sIx xs.length 0 lo)).take (HT.sIx xs.length xs.length hi - HT.sIx xs.length 0 lo)
theorem cutD_map {α β : Type} (f : α → β) (xs : List α) (lo hi : Option Int) : cutD (xs.map f) lo hi = (cutD xs lo hi).map f := by
  unfold cutD
  rw [List.length_map, List.map_take, List.map_drop]
theorem RepA.cut {F : Hp} {xs : List V} {ds : List PyData} (r : RepA F xs ds) (lo hi : Option Int) : RepA F (cutV xs lo hi) (cutD ds lo hi) := by
  unfold cutV cutD
  rw [r.length]
  exact (r.drop _).take _
theorem evN_sl {tl th : TO} {ds : List PyData} {lo hi : Option Int} (h : Ev B Δ C te (.d (.list ds))) (h1 : EvO B Δ C tl lo) (h2 : EvO B Δ C th hi) : EvN B Δ C (tSl (rSlL K) te tl th) (.lst ((cutD ds lo hi).map Sd.d)) := fun σ H F hs Q q =>
  h σ H F hs _ fun v F1 H1 hs1 e1 e1' w1 => h1 σ H1 F1 hs1 _ fun F2 H2 hs2 e2 e2' => h2 σ H2 F2 hs2 _ fun F3 H3 hs3 e3 e3' => by
    obtain ⟨a, xs, rfl, e, r⟩ := Rep.lst_inv w1
    exact ⟨a, xs, rfl, SqL.of (hs3.fh _ _ (e3 _ _ (e2 _ _ e))), (q.later ((e1.trans e2).trans e3) ((e1'.trans e2').trans e3')).made hs3 ⟨_, rfl, ((RepA.mono (e2.trans e3) _ _ r).cut lo hi).sl⟩⟩
theorem ev_sl {tl th : TO} {ds : List PyData} {lo hi : Option Int} (h : Ev B Δ C te (.d (.list ds))) (h1 : EvO B Δ C tl lo) (h2 : EvO B Δ C th hi) : Ev B Δ C (tSl (rSlL K) te tl th) (.d (.list (cutD ds lo hi))) := ev_of (evN_sl h h1 h2)
/-- of the script -/
theorem evN_slS {tl th : TO} {ns : List Int} {lo hi : Option Int} (h : Ev B Δ C te (.p (Scr K ns))) (h1 : EvO B Δ C tl lo) (h2 : EvO B Δ C th hi) : EvN B Δ C (tSl (rSlL K) te tl th) (.lst (((cutD ns lo hi).map PyData.int).map Sd.d)) := fun σ H F hs Q q =>
  h σ H F hs _ fun v F1 H1 hs1 e1 e1' w1 => h1 σ H1 F1 hs1 _ fun F2 H2 hs2 e2 e2' => h2 σ H2 F2 hs2 _ fun F3 H3 hs3 e3 e3' => by
    obtain ⟨a, rfl, e⟩ := w1
    refine ⟨a, _, rfl, ex_l hs3.fh (ex_l e3 (ex_l e2 e)), (q.later ((e1.trans e2).trans e3) ((e1'.trans e2').trans e3')).made hs3 ⟨_, rfl, ?_⟩⟩
    have z : cutV (ns.map V.int) lo hi = (cutD ns lo hi).map V.int := cutD_map V.int ns lo hi
    rw [z]
    exact RepA.of_ints.sl
theorem ev_slS {tl th : TO} {ns : List Int} {lo hi : Option Int} (h : Ev B Δ C te (.p (Scr K ns))) (h1 : EvO B Δ C tl lo) (h2 : EvO B Δ C th hi) : Ev B Δ C (tSl (rSlL K) te tl th) (.d (.list ((cutD ns lo hi).map PyData.int))) := ev_of (evN_slS h h1 h2)
/-- of a cell of data -/
theorem evN_slC {tl th : TO} {k : Nat} {l : Addr} {ss : List Sd} {lo hi : Option Int} (hc : C[k]? = some (l, .lst ss)) (h : Ev B Δ C te (.v (.ref l))) (h1 : EvO B Δ C tl lo) (h2 : EvO B Δ C th hi) : EvN B Δ C (tSl (rSlL K) te tl th) (.lst (cutD ss lo hi)) := fun σ H F hs Q q =>
  h σ H F hs _ fun v F1 H1 hs1 e1 e1' w1 => h1 σ H1 F1 hs1 _ fun F2 H2 hs2 e2 e2' => h2 σ H2 F2 hs2 _ fun F3 H3 hs3 e3 e3' => by
    cases w1
    obtain ⟨_, o, ho, xs, rfl, r⟩ := hs3.cell hc
    refine ⟨l, xs, rfl, SqL.of ho, (q.later ((e1.trans e2).trans e3) ((e1'.trans e2').trans e3')).made hs3 ⟨_, rfl, ?_⟩⟩
    unfold cutV cutD
    rw [r.length]
    exact (SlA.drop _ r).take _

/-! #### truths -/
theorem et_test {b : Bool} (h : Ev B Δ C te (.d (.bool b))) : EvT B Δ C (tTest te) b := fun σ H F hs Q q => h σ H F hs _ fun v F1 H1 h1 e1 e1' w1 => by
  cases w1; exact ⟨b, rfl, q F1 H1 h1 e1 e1'⟩
theorem et_B {b : Bool} (h : Ev B Δ C te (.d (.bool b))) : EvT B Δ C (tB te) b := fun σ H F hs Q q => h σ H F hs _ fun v F1 H1 h1 e1 e1' w1 => by
  cases w1; exact ⟨b, rfl, q F1 H1 h1 e1 e1'⟩
theorem et_yes : EvT B Δ C tYes true := fun _ H F hs _ q => q F H hs (Ex.refl F) (Ex.refl H)
theorem et_and {a b : Bool} (h1 : EvT B Δ C t a) (h2 : a = true → EvT B Δ C u b) : EvT B Δ C (tAnd t u) (a && b) := fun σ H F hs Q q => h1 σ H F hs _ fun F1 H1 hs1 e1 e1' => by
  cases a with
  | true => show u σ H1 Q; exact h2 rfl σ H1 F1 hs1 Q (q.later e1 e1')
  | false => show Q false H1; exact q F1 H1 hs1 e1 e1'
theorem et_or {a b : Bool} (h1 : EvT B Δ C t a) (h2 : a = false → EvT B Δ C u b) : EvT B Δ C (tOr t u) (a || b) := fun σ H F hs Q q => h1 σ H F hs _ fun F1 H1 hs1 e1 e1' => by
  cases a with
  | false => show u σ H1 Q; exact h2 rfl σ H1 F1 hs1 Q (q.later e1 e1')
  | true => show Q true H1; exact q F1 H1 hs1 e1 e1'
theorem et_not {a : Bool} (h1 : EvT B Δ C t a) : EvT B Δ C (tNot t) (!a) := fun σ H F hs Q q => h1 σ H F hs _ fun F1 H1 hs1 e1 e1' => q F1 H1 hs1 e1 e1'
theorem ev_andV {a b : Bool} (h1 : Ev B Δ C ta (.d (.bool a))) (h2 : a = true → Ev B Δ C tb (.d (.bool b))) : Ev B Δ C (tAndV ta tb) (.d (.bool (a && b))) := fun σ H F hs Q q => h1 σ H F hs _ fun v F1 H1 hs1 e1 e1' w => by
  cases w
  refine ⟨a, rfl, ?_⟩
  cases a with
  | true => show tb σ H1 Q; exact h2 rfl σ H1 F1 hs1 Q (q.later e1 e1')
  | false => show Q (.bl false) H1; exact q _ F1 H1 hs1 e1 e1' (.bl _)
theorem ev_orV {a b : Bool} (h1 : Ev B Δ C ta (.d (.bool a))) (h2 : a = false → Ev B Δ C tb (.d (.bool b))) : Ev B Δ C (tOrV ta tb) (.d (.bool (a || b))) := fun σ H F hs Q q => h1 σ H F hs _ fun v F1 H1 hs1 e1 e1' w => by
  cases w
  refine ⟨a, rfl, ?_⟩
  cases a with
  | false => show tb σ H1 Q; exact h2 rfl σ H1 F1 hs1 Q (q.later e1 e1')
  | true => show Q (.bl true) H1; exact q _ F1 H1 hs1 e1 e1' (.bl _)
theorem ev_notV {a : Bool} (h1 : Ev B Δ C ta (.d (.bool a))) : Ev B Δ C (tNotV ta) (.d (.bool (!a))) := fun σ H F hs Q q => h1 σ H F hs _ fun v F1 H1 hs1 e1 e1' w => by
  cases w
  exact ⟨a, rfl, q _ F1 H1 hs1 e1 e1' (.bl _)⟩
theorem ev_if {b : Bool} (h : EvT B Δ C t b) (h1 : b = true → Ev B Δ C ta s) (h2 : b = false → Ev B Δ C tb s) : Ev B Δ C (tIf t ta tb) s := fun σ H F hs Q q => h σ H F hs _ fun F1 H1 hs1 e1 e1' => by
  cases b with
  | true => show ta σ H1 Q; exact h1 rfl σ H1 F1 hs1 Q (q.later e1 e1')
  | false => show tb σ H1 Q; exact h2 rfl σ H1 F1 hs1 Q (q.later e1 e1')
theorem ev_if' {b : Bool} (h : EvT B Δ C t b) (h1 : b = true → Ev B Δ C ta s1) (h2 : b = false → Ev B Δ C tb s2) : Ev B Δ C (tIf t ta tb) (if b = true then s1 else s2) :=
  ev_if h (fun e => by subst e; exact h1 rfl) (fun e => by subst e; exact h2 rfl)
/-- a < b < c -/
theorem ev_chain {r r' : R2} {a b : Bool} {tc : TE} (ha : Ev B Δ C ta s1) (hb : Ev B Δ C tb s2) (hr : RV B Δ C r s1 s2 (.d (.bool a))) (hc : a = true → Ev B Δ C tc s3) (hr' : a = true → RV B Δ C r' s2 s3 (.d (.bool b))) : Ev B Δ C (tChain r r' ta tb tc) (.d (.bool (a && b))) := fun σ H F hs Q q =>
  ha σ H F hs _ fun x F1 H1 h1 e1 e1' w1 => hb σ H1 F1 h1 _ fun y F2 H2 h2 e2 e2' w2 => hr σ H2 F2 h2 x y (w1.mono e2) w2 _ fun z F3 H3 h3 e3 e3' w3 => by
    cases w3
    refine ⟨a, rfl, ?_⟩
    cases a with
    | true =>
      show tc σ H3 fun w' H4 => r' y w' H4 Q
      exact hc rfl σ H3 F3 h3 _ fun w F4 H4 h4 e4 e4' w4 => hr' rfl σ H4 F4 h4 y w (w2.mono (e3.trans e4)) w4 Q (q.later (((e1.trans e2).trans e3).trans e4) (((e1'.trans e2').trans e3').trans e4'))
    | false =>
      show Q (.bl false) H3
      exact q _ F3 H3 h3 ((e1.trans e2).trans e3) ((e1'.trans e2').trans e3') (.bl _)

/-! #### calls -/
theorem ev_cb {r : List V → Hp → VK → Prop} {ta : TA} {ss : List Sd} (h : EvA B Δ C ta ss) (hr : RC B Δ C r ss s) : Ev B Δ C (tCB r ta) s := fun σ H F hs Q q =>
  h σ H F hs _ fun vs F1 H1 h1 e1 e1' w1 => hr σ H1 F1 h1 vs w1 Q (q.later e1 e1')
theorem evN_cb {r : List V → Hp → VK → Prop} {ta : TA} {ss : List Sd} {c : Cd} (h : EvA B Δ C ta ss) (hr : RCN B Δ C r ss c) : EvN B Δ C (tCB r ta) c := fun σ H F hs Q q =>
  h σ H F hs _ fun vs F1 H1 h1 e1 e1' w1 => hr σ H1 F1 h1 vs w1 Q (q.later e1 e1')
/-- len -/
theorem rc_lenL {ds : List PyData} : RC B Δ C (fun xs H Q => ∃ p ys, xs = [.ref p] ∧ (SqL K H p ys ∨ SqT K H p ys) ∧ Q (.int ys.length) H) [.d (.list ds)] (.d (.int (ds.length : Nat))) := fun σ H F hs xs w Q q => by
  cases w with | cons w w' => cases w'; obtain ⟨a, xs, rfl, e, r⟩ := Rep.lst_inv w; exact ⟨a, xs, rfl, .inl (SqL.of (hs.fh _ _ e)), by rw [r.length]; exact q.now hs (.int _)⟩
theorem rc_lenT {ds : List PyData} : RC B Δ C (fun xs H Q => ∃ p ys, xs = [.ref p] ∧ (SqL K H p ys ∨ SqT K H p ys) ∧ Q (.int ys.length) H) [.d (.tuple ds)] (.d (.int (ds.length : Nat))) := fun σ H F hs xs w Q q => by
  cases w with | cons w w' => cases w'; obtain ⟨a, xs, rfl, e, r⟩ := Rep.tup_inv w; exact ⟨a, xs, rfl, .inr (SqT.of (hs.fh _ _ e)), by rw [r.length]; exact q.now hs (.int _)⟩
theorem rc_lenC {k : Nat} {l : Addr} {ss : List Sd} (hc : C[k]? = some (l, .lst ss)) : RC B Δ C (fun xs H Q => ∃ p ys, xs = [.ref p] ∧ (SqL K H p ys ∨ SqT K H p ys) ∧ Q (.int ys.length) H) [.v (.ref l)] (.d (.int (ss.length : Nat))) := fun σ H F hs xs w Q q => by
  cases w with | cons w w' =>
    cases w'; cases w
    obtain ⟨_, o, ho, xs, rfl, r⟩ := hs.cell hc
    exact ⟨l, xs, rfl, .inl (SqL.of ho), by rw [r.length]; exact q.now hs (.int _)⟩
theorem rc_lenS {ns : List Int} : RC B Δ C (fun xs H Q => ∃ p ys, xs = [.ref p] ∧ (SqL K H p ys ∨ SqT K H p ys) ∧ Q (.int ys.length) H) [.p (Scr K ns)] (.d (.int (ns.length : Nat))) := fun σ H F hs xs w Q q => by
  cases w with | cons w w' => cases w'; obtain ⟨a, rfl, e⟩ := w; exact ⟨a, _, rfl, .inl (ex_l hs.fh e), by rw [List.length_map]; exact q.now hs (.int _)⟩
/-- list(xs) -/
theorem rcN_listL {ds : List PyData} : RCN B Δ C (fun xs H Q => ∃ p ys, xs = [.ref p] ∧ (SqL K H p ys ∨ SqT K H p ys) ∧ ∀ l, H l = none → Q (.ref l) (upd H l (.lst ys))) [.d (.list ds)] (.lst (ds.map Sd.d)) := fun σ H F hs xs w Q q => by
  cases w with | cons w w' => cases w'; obtain ⟨a, xs, rfl, e, r⟩ := Rep.lst_inv w; exact ⟨a, xs, rfl, .inl (SqL.of (hs.fh _ _ e)), q.made hs ⟨_, rfl, r.sl⟩⟩
theorem rcN_listT {ds : List PyData} : RCN B Δ C (fun xs H Q => ∃ p ys, xs = [.ref p] ∧ (SqL K H p ys ∨ SqT K H p ys) ∧ ∀ l, H l = none → Q (.ref l) (upd H l (.lst ys))) [.d (.tuple ds)] (.lst (ds.map Sd.d)) := fun σ H F hs xs w Q q => by
  cases w with | cons w w' => cases w'; obtain ⟨a, xs, rfl, e, r⟩ := Rep.tup_inv w; exact ⟨a, xs, rfl, .inr (SqT.of (hs.fh _ _ e)), q.made hs ⟨_, rfl, r.sl⟩⟩
theorem rcN_listC {k : Nat} {l : Addr} {ss : List Sd} (hc : C[k]? = some (l, .lst ss)) : RCN B Δ C (fun xs H Q => ∃ p ys, xs = [.ref p] ∧ (SqL K H p ys ∨ SqT K H p ys) ∧ ∀ l, H l = none → Q (.ref l) (upd H l (.lst ys))) [.v (.ref l)] (.lst ss) := fun σ H F hs xs w Q q => by
  cases w with | cons w w' =>
    cases w'; cases w
    obtain ⟨_, o, ho, xs, rfl, r⟩ := hs.cell hc
    exact ⟨l, xs, rfl, .inl (SqL.of ho), q.made hs ⟨_, rfl, r⟩⟩
/-- min, max of two -/
theorem rc_max2 {i j : Int} : RC B Δ C (fun xs H Q => ∃ i j, xs = [.int i, .int j] ∧ Q (.int (if j > i then j else i)) H) [.d (.int i), .d (.int j)] (.d (.int (max i j))) := fun σ H F hs xs w Q q => by
  cases w with | cons w w' => cases w' with | cons w2 w3 =>
    cases w; cases w2; cases w3
    refine ⟨i, j, rfl, ?_⟩
    have e : (if j > i then j else i) = max i j := by split <;> omega
    rw [e]; exact q.now hs (.int _)
theorem rc_min2 {i j : Int} : RC B Δ C (fun xs H Q => ∃ i j, xs = [.int i, .int j] ∧ Q (.int (if j < i then j else i)) H) [.d (.int i), .d (.int j)] (.d (.int (min i j))) := fun σ H F hs xs w Q q => by
  cases w with | cons w w' => cases w' with | cons w2 w3 =>
    cases w; cases w2; cases w3
    refine ⟨i, j, rfl, ?_⟩
    have e : (if j < i then j else i) = min i j := by split <;> omega
    rw [e]; exact q.now hs (.int _)
/-- sorted of ints -/
def sortI (ns : List Int) : List Int := ns.mergeSort (fun a b => decide (a ≤ b))
theorem sortI_perm (ns : List Int) : (sortI ns).Perm ns := List.mergeSort_perm ns _
theorem sortI_pw (ns : List Int) : (sortI ns).Pairwise (· ≤ ·) := by
  have h := List.pairwise_mergeSort (le := fun a b : Int => decide (a ≤ b)) (fun a b c => by simp; omega) (fun a b => by simp; omega) ns
  exact h.imp (by simp)
theorem perm_sorted_eq : ∀ {as bs : List Int}, as.Perm bs → as.Pairwise (· ≤ ·) → bs.Pairwise (· ≤ ·) → as = bs := fun h h1 h2 => h.eq_of_pairwise (fun a b _ _ x y => Int.le_antisymm x y) h1 h2
theorem sortI_uniq {as bs : List Int} (h : as.Perm bs) (h1 : as.Pairwise (· ≤ ·)) : as = sortI bs := perm_sorted_eq (h.trans (sortI_perm bs).symm) h1 (sortI_pw bs)
theorem rcN_sorted {ns : List Int} : RCN B Δ C (rSortedI K) [.d (.list (ns.map .int))] (.lst (((sortI ns).map PyData.int).map Sd.d)) := fun σ H F hs xs w Q q => by
  cases w with | cons w w' =>
    cases w'; obtain ⟨a, xs, rfl, e, r⟩ := Rep.lst_inv w
    have r' := r.ints
    subst r'
    refine ⟨a, ns, rfl, SqL.of (hs.fh _ _ e), fun ns' p hp hw hf => ?_⟩
    rw [sortI_uniq hp hw]
    exact q.made hs ⟨_, rfl, RepA.of_ints.sl⟩ p hf
/-- all(list of truths), any -/
theorem rc_all {bs : List Bool} : RC B Δ C (rAll K) [.d (.list (bs.map .bool))] (.d (.bool (bs.all id))) := fun σ H F hs xs w Q q => by
  cases w with | cons w w' =>
    cases w'; obtain ⟨a, xs, rfl, e, r⟩ := Rep.lst_inv w
    have r' := r.bools
    subst r'
    exact ⟨a, bs, rfl, SqL.of (hs.fh _ _ e), q.now hs (.bl _)⟩
/-- sum of ints -/
theorem rc_sum {ns : List Int} : RC B Δ C (rSum K) [.d (.list (ns.map .int))] (.d (.int ns.sum)) := fun σ H F hs xs w Q q => by
  cases w with | cons w w' =>
    cases w'; obtain ⟨a, xs, rfl, e, r⟩ := Rep.lst_inv w
    have r' := r.ints
    subst r'
    exact ⟨a, ns, rfl, SqL.of (hs.fh _ _ e), q.now hs (.int _)⟩

/-! #### defs of one's own -/
/-- what has grown since B -/
structure Ext (B : Base) (F' H' : Hp) : Prop where
  ff : Ex B.F F'
  fh : Ex F' H'
  hh : Ex B.H H'
  gr : ∀ a, F' a ≠ none → B.F a ≠ none ∨ B.H a = none ∨ IsT B.H a
theorem St.ext (h : St B Δ C σ H F) (hc : ∀ c ∈ C, B.H c.1 = none) : Ext B F H := ⟨h.ff, h.fh, fun a o e => h.hh a o (fun z => by
  obtain ⟨c, hc', rfl⟩ := List.mem_map.mp z
  rw [hc c hc'] at e; cases e) e, h.gr⟩
theorem St.by (h : St B Δ C σ H F) {F' H' : Hp} {G : List (V × Sd)} (x : Ext ⟨F, H, G⟩ F' H') : St B Δ C σ H' F' := h.grow x.ff x.hh x.fh x.gr fun _ q => h.free q
/-- the answer is told by s; everything else stands -/
def Ret (B : Base) (s : Sd) (Q : VK) : Prop := ∀ v F' H', Ext B F' H' → SlV F' v s → Q v H'
/-- the answer is a new cell -/
def RetN (B : Base) (c : Cd) (Q : VK) : Prop := ∀ l o F' H', Ext B F' H' → B.H l = none → F' l = none → H' l = some o → CellOk F' o c → Q (.ref l) H'
/-- promises: the arguments told by ss (R), the answer by s -/
def SpD (R : Hp → Hp → List Sd → Sd → Prop) : Sp := fun vs H Q _ => ∃ F ss s, Ex F H ∧ SlA F vs ss ∧ R F H ss s ∧ Ret ⟨F, H, []⟩ s Q
def SpN (R : Hp → Hp → List Sd → Cd → Prop) : Sp := fun vs H Q _ => ∃ F ss c, Ex F H ∧ SlA F vs ss ∧ R F H ss c ∧ RetN ⟨F, H, []⟩ c Q
theorem ev_call {R : Hp → Hp → List Sd → Sd → Prop} {E : XK} {ta : TA} {ss : List Sd} (h : EvA B Δ C ta ss) (hR : ∀ σ H F, St B Δ C σ H F → R F H ss s) : Ev B Δ C (tCall (SpD R) [] E ta) s := fun σ H F hs Q q =>
  h σ H F hs _ fun vs F1 H1 h1 e1 e1' w1 => ⟨F1, ss, s, h1.fh, by rw [List.append_nil]; exact w1, hR σ H1 F1 h1, fun v F' H' x w => q v F' H' (h1.by x) (e1.trans x.ff) (e1'.trans x.hh) w⟩
theorem RetN.post {G : List (V × Sd)} {c : Cd} {Q : VK} (h1 : St B Δ C σ H F) (q : PostN B Δ C σ H F c Q) : RetN ⟨F, H, G⟩ c Q := fun l o F' H' x n0 n1 e w => by
  have h2 := h1.by x
  refine q l F' H' ⟨h2.ff, h2.fh, fun a u n z => h2.hh a u (fun m => n (List.mem_cons_of_mem _ m)) z, h2.gr, h2.sl, fun y hy => ?_, ?_, h2.gg⟩ x.ff x.hh n0
  · rcases List.mem_cons.mp hy with rfl | hy
    · exact ⟨n1, o, e, w⟩
    · exact h2.ce y hy
  · refine List.nodup_cons.mpr ⟨fun z => ?_, h2.nd⟩
    obtain ⟨y, hy, ey⟩ := List.mem_map.mp z
    obtain ⟨_, u, h3, _⟩ := h1.ce y hy
    rw [ey] at h3
    rw [show H l = none from n0] at h3; cases h3
theorem evN_call {R : Hp → Hp → List Sd → Cd → Prop} {E : XK} {ta : TA} {ss : List Sd} {c : Cd} (h : EvA B Δ C ta ss) (hR : ∀ σ H F, St B Δ C σ H F → R F H ss c) : EvN B Δ C (tCall (SpN R) [] E ta) c := fun σ H F hs Q q =>
  h σ H F hs _ fun vs F1 H1 h1 e1 e1' w1 => ⟨F1, ss, c, h1.fh, by rw [List.append_nil]; exact w1, hR σ H1 F1 h1, RetN.post h1 (q.later e1 e1')⟩
/-- a method of an instance that m tells of -/
theorem ev_meth {m : Mono} {D : Addr} {nm : Str} {R : Hp → Hp → List Sd → Sd → Prop} {E : XK} {tb : TA} {ss : List Sd} (ha : Ev B Δ C ta (.p m)) (hi : ∀ F v, m.φ F v → ∃ a dx fs, v = .ref a ∧ F a = some (.ins D dx fs) ∧ fs.lookup nm = none) (h : EvA B Δ C tb ss)
    (hR : ∀ σ H F, St B Δ C σ H F → R F H (.p m :: ss) s) : Ev B Δ C (tMeth D nm (SpD R) [] E ta tb) s := fun σ H F hs Q q =>
  ha σ H F hs _ fun v F1 H1 h1 e1 e1' w1 => by
    obtain ⟨a, dx, fs, rfl, h2, h3⟩ := hi F1 v w1
    refine ⟨a, dx, fs, rfl, h1.fh _ _ h2, h3, ?_⟩
    exact h σ H1 F1 h1 _ fun vs F2 H2 h4 e2 e2' w2 => ⟨F2, .p m :: ss, s, h4.fh, by rw [List.append_nil]; exact .cons (SlV.mono (s := .p m) e2 w1) w2, hR σ H2 F2 h4, fun v F' H' x w => q v F' H' (h4.by x) ((e1.trans e2).trans x.ff) ((e1'.trans e2').trans x.hh) w⟩
theorem evN_meth {m : Mono} {D : Addr} {nm : Str} {R : Hp → Hp → List Sd → Cd → Prop} {E : XK} {tb : TA} {ss : List Sd} {c : Cd} (ha : Ev B Δ C ta (.p m)) (hi : ∀ F v, m.φ F v → ∃ a dx fs, v = .ref a ∧ F a = some (.ins D dx fs) ∧ fs.lookup nm = none) (h : EvA B Δ C tb ss)
    (hR : ∀ σ H F, St B Δ C σ H F → R F H (.p m :: ss) c) : EvN B Δ C (tMeth D nm (SpN R) [] E ta tb) c := fun σ H F hs Q q =>
  ha σ H F hs _ fun v F1 H1 h1 e1 e1' w1 => by
    obtain ⟨a, dx, fs, rfl, h2, h3⟩ := hi F1 v w1
    refine ⟨a, dx, fs, rfl, h1.fh _ _ h2, h3, ?_⟩
    exact h σ H1 F1 h1 _ fun vs F2 H2 h4 e2 e2' w2 => ⟨F2, .p m :: ss, c, h4.fh, by rw [List.append_nil]; exact .cons (SlV.mono (s := .p m) e2 w1) w2, hR σ H2 F2 h4, RetN.post h4 (q.later (e1.trans e2) (e1'.trans e2'))⟩
/-- at a def's entry -/
theorem St.start {N : List Str} {vs : List V} {ss : List Sd} (hf : Ex F H) (h : SlA F vs ss) : St ⟨F, H, []⟩ (ss ++ List.replicate (N.length - ss.length) .no) [] (L2.start N vs) H F := by
  refine ⟨Ex.refl F, hf, fun a o _ e => e, fun a n => .inl n, ?_, (fun c hc => by cases hc), List.nodup_nil, (fun c hc => by cases hc)⟩
  show Sl F (L2.start N vs) (ss ++ List.replicate (N.length - ss.length) Sd.no)
  have h1 : ∀ {vs : List V} {ss : List Sd}, SlA F vs ss → Sl F (vs.map some) ss := by
    intro vs ss h
    induction h with
    | nil => exact .nil
    | cons r t ih => exact .cons r ih
  have h2 : ∀ n : Nat, Sl F (List.replicate n none) (List.replicate n Sd.no) := by
    intro n
    induction n with
    | zero => exact .nil
    | succ n ih => exact .cons trivial ih
  have h3 : ∀ {a b : L2.St} {c d : List Sd}, Sl F a c → Sl F b d → Sl F (a ++ b) (c ++ d) := by
    intro a b c d h
    induction h with
    | nil => intro k; exact k
    | cons r t ih => intro k; exact .cons r (ih k)
  unfold L2.start
  rw [h.length]
  exact h3 (h1 h) (h2 _)

/-! #### comprehensions -/
def wipeD (Δ : List Sd) : List Nat → List Sd
  | [] => Δ
  | v :: vs => (wipeD Δ vs).set v .no
theorem Sl.wipe {F : Hp} {σ : L2.St} {Δ : List Sd} (h : Sl F σ Δ) : ∀ vs : List Nat, Sl F (wipe σ vs) (wipeD Δ vs)
  | [] => h
  | v :: vs => Sl.set (o := none) (s := .no) trivial v (Sl.wipe h vs)
/-- the same place, seen from now -/
theorem St.rebase (h : St B Δ C σ H F) : St ⟨F, H, B.G⟩ Δ C σ H F := ⟨Ex.refl F, h.fh, fun _ _ _ e => e, fun _ n => .inl n, h.sl, h.ce, h.nd, h.gg⟩
theorem St.slots (h : St B Δ C σ H F) {σ' : L2.St} {Δ' : List Sd} (e : Sl F σ' Δ') : St B Δ' C σ' H F := ⟨h.ff, h.fh, h.hh, h.gr, e, h.ce, h.nd, h.gg⟩
/-- while a list at D grows -/
structure LcSt (B : Base) (Δ : List Sd) (C : Cs) (σ : L2.St) (F0 H0 : Hp) (D : Addr) (ss : List Sd) (H F : Hp) : Prop where
  st : St B Δ ((D, .lst ss) :: C) σ H F
  f0 : Ex F0 F
  h0 : Ex H0 H
  d0 : H0 D = none
theorem LcSt.inner {F0 H0 : Hp} {D : Addr} {ss : List Sd} (h : LcSt B Δ C σ F0 H0 D ss H F) {σ' : L2.St} {Δ' : List Sd} (e : Sl F σ' Δ') : St ⟨F, H, B.G⟩ Δ' C σ' H F :=
  ⟨Ex.refl F, h.st.fh, fun _ _ _ e => e, fun _ n => .inl n, e, fun c hc => h.st.ce c (List.mem_cons_of_mem _ hc), (List.nodup_cons.mp h.st.nd).2, h.st.gg⟩
/-- behind an evaluation within -/
theorem LcSt.outer {F0 H0 F' H' : Hp} {D : Addr} {ss : List Sd} {σ' : L2.St} {Δ' : List Sd} {G : List (V × Sd)} (h : LcSt B Δ C σ F0 H0 D ss H F) (e : Ex F F') (e' : Ex H H') (k : St ⟨F, H, G⟩ Δ' C σ' H' F') : LcSt B Δ C σ F0 H0 D ss H' F' :=
  ⟨h.st.grow e e' k.fh k.gr fun _ q => h.st.free q, h.f0.trans e, h.h0.trans e', h.d0⟩
theorem LcSt.add {F0 H0 : Hp} {D : Addr} {ss : List Sd} (h : LcSt B Δ C σ F0 H0 D ss H F) {v : V} (w : SlV F v s) : ∃ acc, H D = some (.lst acc) ∧ acc.length = ss.length ∧ LcSt B Δ C σ F0 H0 D (ss ++ [s]) (upd H D (.lst (acc ++ [v]))) F := by
  obtain ⟨_, o, ho, acc, rfl, r⟩ := h.st.ce _ List.mem_cons_self
  refine ⟨acc, ho, r.length, h.st.put (k := 0) rfl (c' := .lst (ss ++ [s])) ⟨_, rfl, r.append (.cons w .nil)⟩, h.f0, Ex.mut h.h0 h.d0, h.d0⟩

/-! #### what is walked -/
/-- J goes through ds while what F1 says stands -/
def Walks (J : It) (ds : List PyData) (F1 : Hp) : Prop :=
  (∀ (i : Nat) (F H : Hp), Ex F1 F → Ex F H → i < ds.length → J.go i H ∧ ∀ x H', J.yld i H x H' → H' = H ∧ ∃ d, ds[i]? = some d ∧ Rep F x d) ∧ ∀ (i : Nat) (F H : Hp), Ex F1 F → Ex F H → ds.length ≤ i → J.stop i H
def Src (B : Base) (Δ : List Sd) (C : Cs) (wi : TI) (ds : List PyData) : Prop := ∀ σ H F, St B Δ C σ H F → ∀ R : It → Hp → Prop, (∀ J F1 H1, St B Δ C σ H1 F1 → Ex F F1 → Ex H H1 → Walks J ds F1 → R J H1) → wi σ H R
theorem Src.list {ds : List PyData} (h : Ev B Δ C te (.d (.list ds))) : Src B Δ C (iList K te) ds := fun σ H F hs R q => h σ H F hs _ fun v F1 H1 h1 e1 e1' w => by
  obtain ⟨a, xs, rfl, e, r⟩ := Rep.lst_inv w
  refine ⟨a, rfl, ⟨xs, SqL.of (h1.fh _ _ e)⟩, q _ F1 H1 h1 e1 e1' ⟨fun i F2 H2 x y hi => ?_, fun i F2 H2 x y hi => ⟨xs, SqL.of (y _ _ (x _ _ e)), by rw [r.length]; exact hi⟩⟩⟩
  have hi' : i < xs.length := by rw [r.length]; exact hi
  refine ⟨⟨xs, xs[i], SqL.of (y _ _ (x _ _ e)), by simp [hi']⟩, fun z H' hy => ?_⟩
  obtain ⟨rfl, hy⟩ := hy
  have e2 := hy xs (SqL.of (y _ _ (x _ _ e)))
  obtain ⟨d, h3, h4⟩ := r.get e2
  exact ⟨rfl, d, h3, Rep.mono x _ _ h4⟩
theorem Src.tup {ds : List PyData} (h : Ev B Δ C te (.d (.tuple ds))) : Src B Δ C (iTup K te) ds := fun σ H F hs R q => h σ H F hs _ fun v F1 H1 h1 e1 e1' w => by
  obtain ⟨a, xs, rfl, e, r⟩ := Rep.tup_inv w
  refine ⟨a, rfl, ⟨xs, SqT.of (h1.fh _ _ e)⟩, q _ F1 H1 h1 e1 e1' ⟨fun i F2 H2 x y hi => ?_, fun i F2 H2 x y hi => ⟨xs, SqT.of (y _ _ (x _ _ e)), by rw [r.length]; exact hi⟩⟩⟩
  have hi' : i < xs.length := by rw [r.length]; exact hi
  refine ⟨⟨xs, xs[i], SqT.of (y _ _ (x _ _ e)), by simp [hi']⟩, fun z H' hy => ?_⟩
  obtain ⟨rfl, hy⟩ := hy
  have e2 := hy xs (SqT.of (y _ _ (x _ _ e)))
  obtain ⟨d, h3, h4⟩ := r.get e2
  exact ⟨rfl, d, h3, Rep.mono x _ _ h4⟩
/-- range's numbers -/
def rgD (lo : Int) (n : Nat) : List PyData := (List.range n).map fun (i : Nat) => PyData.int (lo + (i : Int))
theorem rgD_get {lo : Int} {n i : Nat} (h : i < n) : (rgD lo n)[i]? = some (.int (lo + (i : Int))) := by unfold rgD; rw [List.getElem?_map, List.getElem?_range h]; rfl
theorem rgD_len {lo : Int} {n : Nat} : (rgD lo n).length = n := by unfold rgD; rw [List.length_map, List.length_range]
theorem Walks.rng (lo : Int) (n : Nat) (F1 : Hp) : Walks (Itr lo n) (rgD lo n) F1 := ⟨fun i F2 H2 x y hi => by
    rw [rgD_len] at hi
    refine ⟨hi, fun z H' hy => ?_⟩
    obtain ⟨rfl, rfl⟩ := hy
    exact ⟨rfl, _, rgD_get hi, .int _⟩, fun i F2 H2 x y hi => by rw [rgD_len] at hi; exact hi⟩
theorem Src.r1 {ta : TA} {n : Int} (h : EvA B Δ C ta [.d (.int n)]) (hn : -1000000 ≤ n ∧ n ≤ 1000000 := by omega) : Src B Δ C (iRng1 ta) (rgD 0 n.toNat) := fun σ H F hs R q => h σ H F hs _ fun vs F1 H1 h1 e1 e1' w => by
  cases w with | cons w w' => cases w; cases w'; exact ⟨n, rfl, by omega, by omega, q _ F1 H1 h1 e1 e1' (Walks.rng _ _ _)⟩
theorem Src.r2 {ta : TA} {m n : Int} (h : EvA B Δ C ta [.d (.int m), .d (.int n)]) (hn : -1000000 ≤ m ∧ m ≤ 1000000 ∧ -1000000 ≤ n ∧ n ≤ 1000000 := by omega) : Src B Δ C (iRng2 ta) (rgD m (n - m).toNat) := fun σ H F hs R q => h σ H F hs _ fun vs F1 H1 h1 e1 e1' w => by
  cases w with | cons w w' => cases w' with | cons w2 w3 => cases w; cases w2; cases w3; exact ⟨m, n, rfl, ⟨by omega, by omega, by omega, by omega⟩, q _ F1 H1 h1 e1 e1' (Walks.rng _ _ _)⟩
theorem rgD_nat (n : Nat) : rgD 0 n = (List.range n).map fun i : Nat => PyData.int (i : Int) := by
  unfold rgD
  refine List.map_congr_left fun i _ => ?_
  rw [Int.zero_add]
/-- range(n), n a number of ours -/
theorem Src.rN {ta : TA} {n : Nat} (h : EvA B Δ C ta [.d (.int (n : Int))]) (hn : n ≤ 1000000 := by omega) : Src B Δ C (iRng1 ta) ((List.range n).map fun i : Nat => PyData.int (i : Int)) := by
  have h := Src.r1 h (by omega)
  rw [Int.toNat_natCast, rgD_nat] at h
  exact h
/-- range(m, n) -/
theorem Src.rMN {ta : TA} {m n : Nat} (h : EvA B Δ C ta [.d (.int (m : Int)), .d (.int (n : Int))]) (hn : m ≤ 1000000 ∧ n ≤ 1000000 := by omega) : Src B Δ C (iRng2 ta) ((List.range (n - m)).map fun i : Nat => PyData.int ((m + i : Nat) : Int)) := by
  have h := Src.r2 h (by omega)
  have e : ((n : Int) - (m : Int)).toNat = n - m := by omega
  rw [e] at h
  have e2 : rgD (m : Int) (n - m) = (List.range (n - m)).map fun i : Nat => PyData.int ((m + i : Nat) : Int) := by
    unfold rgD
    refine List.map_congr_left fun i _ => ?_
    rw [Int.natCast_add]
  rw [e2] at h
  exact h
theorem Src.eq {wi : TI} {ds es : List PyData} (h : Src B Δ C wi ds) (e : ds = es) : Src B Δ C wi es := e ▸ h

/-! #### targets -/
theorem wipe_setN {j : Nat} {o : Option V} : ∀ (vs : List Nat) (σ : L2.St), j ∉ vs → wipe (σ.set j o) vs = (wipe σ vs).set j o
  | [], _, _ => rfl
  | v :: vs, σ, h => by
    have h1 : j ≠ v := fun z => h (by rw [z]; exact List.mem_cons_self)
    show (wipe (σ.set j o) vs).set v none = ((wipe σ vs).set v none).set j o
    rw [wipe_setN vs σ fun z => h (List.mem_cons_of_mem _ z), List.set_comm _ _ h1]
theorem wipe_setI {j : Nat} {o : Option V} : ∀ (vs : List Nat) (σ : L2.St), j ∈ vs → wipe (σ.set j o) vs = wipe σ vs
  | v :: vs, σ, h => by
    show (wipe (σ.set j o) vs).set v none = (wipe σ vs).set v none
    by_cases h1 : j ∈ vs
    · rw [wipe_setI vs σ h1]
    · rcases List.mem_cons.mp h with rfl | h2
      · rw [wipe_setN vs σ h1, List.set_set]
      · exact absurd h2 h1
theorem wipe_wipe : ∀ (vs ws : List Nat) (σ : L2.St), (∀ j ∈ vs, j ∈ ws) → wipe (wipe σ vs) ws = wipe σ ws
  | [], _, _, _ => rfl
  | v :: vs, ws, σ, h => by
    show wipe ((wipe σ vs).set v none) ws = wipe σ ws
    rw [wipe_setI ws _ (h v List.mem_cons_self), wipe_wipe vs ws σ fun j hj => h j (List.mem_cons_of_mem _ hj)]
theorem Sl.setd {F : Hp} {v : V} {d : PyData} (r : Rep F v d) {σ : L2.St} {Δ : List Sd} (i : Nat) (h : Sl F σ Δ) : Sl F (σ.set i (some v)) (Δ.set i (.d d)) := Sl.set (o := some v) (s := .d d) r i h
def Tg (g : TG) (js : List Nat) (d : PyData) (u : List Sd → List Sd) : Prop := ∀ F H σ Δ v, Ex F H → Sl F σ Δ → Rep F v d → ∀ Q : L2.St → Hp → Prop, (∀ σ', Sl F σ' (u Δ) → (∀ vs, (∀ j ∈ js, j ∈ vs) → wipe σ' vs = wipe σ vs) → Q σ' H) → g v σ H Q
theorem tg_name {j : Nat} {d : PyData} : Tg (gName j) [j] d (fun Δ => Δ.set j (.d d)) := fun F H σ Δ v _ h r Q q =>
  q _ (Sl.set (o := some v) (s := .d d) r j h) fun vs hj => wipe_setI vs σ (hj j List.mem_cons_self)
theorem tg_tup2 {a b : Nat} {x y : PyData} : Tg (gTup K 2 (gCons (gName a) (gCons (gName b) gNil))) [a, b] (.tuple [x, y]) (fun Δ => (Δ.set a (.d x)).set b (.d y)) := fun F H σ Δ v hF h r Q q => by
  obtain ⟨p, xs, rfl, e, r⟩ := Rep.tup_inv r
  cases r with | cons r1 r => cases r with | cons r2 r =>
    cases r
    refine ⟨p, _, rfl, SqT.of (hF _ _ e), rfl, ?_⟩
    refine ⟨_, _, rfl, _, _, rfl, rfl, ?_⟩
    refine q _ (Sl.setd r2 b (Sl.setd r1 a h)) fun vs hj => ?_
    rw [wipe_setI vs _ (hj b (by simp)), wipe_setI vs _ (hj a (by simp))]
theorem tg_tup3 {a b c : Nat} {x y z : PyData} : Tg (gTup K 3 (gCons (gName a) (gCons (gName b) (gCons (gName c) gNil)))) [a, b, c] (.tuple [x, y, z]) (fun Δ => ((Δ.set a (.d x)).set b (.d y)).set c (.d z)) := fun F H σ Δ v hF h r Q q => by
  obtain ⟨p, xs, rfl, e, r⟩ := Rep.tup_inv r
  cases r with | cons r1 r => cases r with | cons r2 r => cases r with | cons r3 r =>
    cases r
    refine ⟨p, _, rfl, SqT.of (hF _ _ e), rfl, ?_⟩
    refine ⟨_, _, rfl, _, _, rfl, _, _, rfl, rfl, ?_⟩
    refine q _ (Sl.setd r3 c (Sl.setd r2 b (Sl.setd r1 a h))) fun vs hj => ?_
    rw [wipe_setI vs _ (hj c (by simp)), wipe_setI vs _ (hj b (by simp)), wipe_setI vs _ (hj a (by simp))]

/-- B' is seen from later: what B says stands, the cells apart -/
structure Le (B : Base) (C : Cs) (B' : Base) : Prop where
  f : Ex B.F B'.F
  h : ∀ a o, a ∉ C.map (·.1) → B.H a = some o → B'.H a = some o
theorem LcSt.le {F0 H0 : Hp} {D : Addr} {ss : List Sd} {G : List (V × Sd)} (h : LcSt B Δ C σ F0 H0 D ss H F) (hD : B.H D = none) : Le B C ⟨F, H, G⟩ := ⟨h.st.ff, fun a o n e => h.st.hh a o (fun z => by
  rcases List.mem_cons.mp z with z | z
  · have z : a = D := z
    rw [z, hD] at e; cases e
  · exact n z) e⟩
/-! #### list comprehensions -/
theorem take_succ {α : Type} {ds : List α} {i : Nat} {d : α} (e : ds[i]? = some d) : ds.take (i + 1) = ds.take i ++ [d] := by
  rw [List.take_add_one, e]; rfl
theorem evN_lcM {α : Type} {wi : TI} {g : TG} {tt : TT} {vs js : List Nat} {as : List α} (enc : α → PyData) (u : PyData → List Sd → List Sd) (f : α → Bool) (v : α → Sd) (src : Src B Δ C wi (as.map enc)) (T : ∀ d ∈ as, Tg g js (enc d) (u (enc d))) (hj : ∀ j ∈ js, j ∈ vs)
    (ht : ∀ B' d, Le B C B' → d ∈ as → EvT B' (u (enc d) (wipeD Δ vs)) C tt (f d)) (he : ∀ B' d, Le B C B' → d ∈ as → f d = true → Ev B' (u (enc d) (wipeD Δ vs)) C te (v d)) (hz : as.length ≤ 50000) :
    EvN B Δ C (tLc wi g tt te vs) (.lst ((as.filter f).map v)) := fun σ H F hs Q q => src σ H F hs _ fun J F1 H1 h1 e1 e1' wk => fun D hD => by
  refine ⟨fun i m H' => m = as.length - i ∧ i ≤ as.length ∧ ∃ F', LcSt B Δ C σ F1 H1 D (((as.take i).filter f).map v) H' F', ⟨as.length, by simp, Nat.zero_le _, F1, h1.newC hD ⟨[], rfl, .nil⟩, Ex.refl F1, Ex.new hD, hD⟩, ?_⟩
  rintro i m H' ⟨rfl, hi, F', L⟩
  by_cases hlt : i < as.length
  · obtain ⟨w1, w2⟩ := wk.1 i F' H' L.f0 L.st.fh (by rw [List.length_map]; exact hlt)
    refine .inr ⟨w1, fun H2 => i + 1 ≤ as.length ∧ ∃ F2, LcSt B Δ C σ F1 H1 D (((as.take (i + 1)).filter f).map v) H2 F2, fun H2 p => ⟨as.length - (i + 1), by omega, rfl, p⟩, fun x H2 y => ?_⟩
    obtain ⟨rfl, d', hd', rd⟩ := w2 x H2 y
    obtain ⟨d, hd, rfl⟩ : ∃ d, as[i]? = some d ∧ enc d = d' := by
      rw [List.getElem?_map] at hd'
      cases q : as[i]? with
      | none => rw [q] at hd'; cases hd'
      | some o => rw [q] at hd'; exact ⟨o, rfl, Option.some.inj hd'⟩
    have hm : d ∈ as := List.mem_of_getElem? hd
    have et : ((as.take (i + 1)).filter f).map v = ((as.take i).filter f).map v ++ (if f d = true then [v d] else []) := by
      rw [take_succ hd, List.filter_append, List.map_append, List.filter_cons]
      split <;> rfl
    refine T d hm F' H2 _ (wipeD Δ vs) x L.st.fh (Sl.wipe L.st.sl vs) rd _ fun σ2 s2 wp => ⟨(wp vs hj).trans (wipe_wipe vs vs σ fun j h => h), ?_⟩
    have k0 := L.inner s2
    have le := L.le (G := B.G) (h1.free hD)
    refine ht _ d le hm σ2 H2 F' k0 _ fun F3 H3 k3 e3 e3' => ?_
    have L3 := L.outer e3 e3' k3
    cases hf : f d with
    | true =>
      rw [if_pos rfl]
      refine he _ d le hm hf σ2 H3 F3 k3 _ fun y F4 H4 k4 e4 e4' w4 => ?_
      have L4 := L.outer (e3.trans e4) (e3'.trans e4') k4
      obtain ⟨acc, ha, hl, L5⟩ := L4.add w4
      refine ⟨acc, ha, sz_lt ?_, hlt, F4, ?_⟩
      · rw [hl, List.length_map]
        have := List.length_filter_le f (as.take i)
        have := List.length_take_le i as
        omega
      · rw [et, if_pos hf]; exact L5
    | false =>
      rw [if_neg (by decide)]
      refine ⟨hlt, F3, ?_⟩
      rw [et, if_neg (by rw [hf]; decide), List.append_nil]; exact L3
  · have hi' : i = as.length := by omega
    subst hi'
    refine .inl ⟨wk.2 _ F' H' L.f0 L.st.fh (by rw [List.length_map]; exact Nat.le_refl _), ?_⟩
    rw [List.take_length] at L
    exact q D F' H' L.st (e1.trans L.f0) (e1'.trans L.h0) (fresh_back e1' hD)
theorem evN_lc {wi : TI} {g : TG} {tt : TT} {vs js : List Nat} {ds : List PyData} (u : PyData → List Sd → List Sd) (f : PyData → Bool) (v : PyData → Sd) (src : Src B Δ C wi ds) (T : ∀ d ∈ ds, Tg g js d (u d)) (hj : ∀ j ∈ js, j ∈ vs)
    (ht : ∀ B' d, Le B C B' → d ∈ ds → EvT B' (u d (wipeD Δ vs)) C tt (f d)) (he : ∀ B' d, Le B C B' → d ∈ ds → f d = true → Ev B' (u d (wipeD Δ vs)) C te (v d)) (hz : ds.length ≤ 50000) :
    EvN B Δ C (tLc wi g tt te vs) (.lst ((ds.filter f).map v)) := evN_lcM id u f v (by rw [List.map_id]; exact src) T hj ht he hz
theorem evN_lcMA {α : Type} {wi : TI} {g : TG} {vs js : List Nat} {as : List α} (enc : α → PyData) (u : PyData → List Sd → List Sd) (v : α → Sd) (src : Src B Δ C wi (as.map enc)) (T : ∀ d ∈ as, Tg g js (enc d) (u (enc d))) (hj : ∀ j ∈ js, j ∈ vs)
    (he : ∀ B' d, Le B C B' → d ∈ as → Ev B' (u (enc d) (wipeD Δ vs)) C te (v d)) (hz : as.length ≤ 50000) : EvN B Δ C (tLc wi g tYes te vs) (.lst (as.map v)) := by
  have h := evN_lcM (te := te) enc u (fun _ => true) v src T hj (fun B' d _ _ => et_yes) (fun B' d le hd _ => he B' d le hd) hz
  rw [List.filter_eq_self.mpr (fun _ _ => rfl)] at h
  exact h
/-- one name, over data of one kind -/
theorem evN_lc1 {α : Type} {wi : TI} {tt : TT} {j : Nat} {as : List α} (enc : α → PyData) (f : α → Bool) (v : α → Sd) (src : Src B Δ C wi (as.map enc))
    (ht : ∀ B' d, Le B C B' → d ∈ as → EvT B' ((wipeD Δ [j]).set j (.d (enc d))) C tt (f d)) (he : ∀ B' d, Le B C B' → d ∈ as → f d = true → Ev B' ((wipeD Δ [j]).set j (.d (enc d))) C te (v d)) (hz : as.length ≤ 50000) :
    EvN B Δ C (tLc wi (gName j) tt te [j]) (.lst ((as.filter f).map v)) := evN_lcM (js := [j]) enc (fun d Δ => Δ.set j (.d d)) f v src (fun _ _ => tg_name) (fun _ h => h) ht he hz
theorem evN_lc1A {α : Type} {wi : TI} {j : Nat} {as : List α} (enc : α → PyData) (v : α → Sd) (src : Src B Δ C wi (as.map enc))
    (he : ∀ B' d, Le B C B' → d ∈ as → Ev B' ((wipeD Δ [j]).set j (.d (enc d))) C te (v d)) (hz : as.length ≤ 50000) :
    EvN B Δ C (tLc wi (gName j) tYes te [j]) (.lst (as.map v)) := evN_lcMA (js := [j]) enc (fun d Δ => Δ.set j (.d d)) v src (fun _ _ => tg_name) (fun _ h => h) he hz
/-- .. all of them kept -/
theorem evN_lcA {wi : TI} {g : TG} {vs js : List Nat} {ds : List PyData} (u : PyData → List Sd → List Sd) (v : PyData → Sd) (src : Src B Δ C wi ds) (T : ∀ d ∈ ds, Tg g js d (u d)) (hj : ∀ j ∈ js, j ∈ vs)
    (he : ∀ B' d, Le B C B' → d ∈ ds → Ev B' (u d (wipeD Δ vs)) C te (v d)) (hz : ds.length ≤ 50000) : EvN B Δ C (tLc wi g tYes te vs) (.lst (ds.map v)) := by
  have h := evN_lc (te := te) u (fun _ => true) v src T hj (fun B' d _ _ => et_yes) (fun B' d le hd _ => he B' d le hd) hz
  rw [List.filter_eq_self.mpr (fun _ _ => rfl)] at h
  exact h

/-! #### isinstance -/
def tyD : PyData → String
  | .none => "NoneType"
  | .bool _ => "bool"
  | .int _ => "int"
  | .str _ => "str"
  | .list _ => "list"
  | .tuple _ => "tuple"
  | .dict _ => "dict"
theorem Rep.ty {K : PySem.W.Frag} {F H : Hp} {v : V} {d : PyData} (h : Rep F v d) (e : Ex F H) : TyX K H v (.type (tyD d)) := by
  cases h with
  | non => exact .base .non
  | bl b => exact .base (.bl b)
  | int i => exact .base (.int i)
  | str x => exact .base (.str x)
  | lst h r => exact .base (.lst (e _ _ h))
  | tup h r => exact .base (.tup (e _ _ h))
theorem rc_isi {d : PyData} {T : String} {b : Bool} (h : kitB (tyD d) T = some b) : RC B Δ C (rIsi K) [.d d, .v (.ty T)] (.d (.bool b)) := fun σ H F hs xs w Q q => by
  cases w with | cons w w' => cases w' with | cons w2 w3 =>
    cases w3; cases w2
    exact ⟨_, _, _, _, b, rfl, .ty T, Rep.ty w hs.fh, kit_ty h, q.now hs (.bl _)⟩
theorem kit_ii : kitB "int" "int" = some true := by decide +kernel
theorem kit_ib : kitB "int" "bool" = some false := by decide +kernel
theorem kit_bi : kitB "bool" "int" = some true := by decide +kernel
theorem kit_bb : kitB "bool" "bool" = some true := by decide +kernel
theorem kit_ll : kitB "list" "list" = some true := by decide +kernel
theorem kit_tt : kitB "tuple" "tuple" = some true := by decide +kernel
theorem kit_si : kitB "str" "int" = some false := by decide +kernel
theorem kit_ni : kitB "NoneType" "int" = some false := by decide +kernel
theorem kit_li : kitB "list" "int" = some false := by decide +kernel
theorem kit_ti : kitB "tuple" "int" = some false := by decide +kernel

/-! ### statements -/
def WP (B : Base) (Δ : List Sd) (C : Cs) (t : TS) (D : Ends) : Prop := ∀ σ H, StE B Δ C σ H → t D σ H
def Nx (B : Base) (Δ : List Sd) (C : Cs) (P : L2.St → Hp → Prop) : Prop := ∀ σ H, StE B Δ C σ H → P σ H
/-- less is told -/
inductive Wk : List Sd → List Sd → Prop
  | nil : Wk [] []
  | any {s : Sd} {Δ Δ' : List Sd} : Wk Δ Δ' → Wk (s :: Δ) (.any :: Δ')
  | same {s : Sd} {Δ Δ' : List Sd} : Wk Δ Δ' → Wk (s :: Δ) (s :: Δ')
theorem SlO.any {F : Hp} : ∀ {o : Option V}, SlO F o .any
  | Option.some _ => trivial
  | Option.none => trivial
theorem Sl.weak {F : Hp} : ∀ {Δ Δ' : List Sd} {σ : L2.St}, Wk Δ Δ' → Sl F σ Δ → Sl F σ Δ'
  | _, _, _, .nil, .nil => .nil
  | _, _, _, .any w, .cons r t => .cons SlO.any (Sl.weak w t)
  | _, _, _, .same w, .cons r t => .cons r (Sl.weak w t)
theorem Wk.refl : ∀ Δ : List Sd, Wk Δ Δ
  | [] => .nil
  | _ :: Δ => .same (Wk.refl Δ)
theorem StE.weak {Δ' : List Sd} (h : StE B Δ C σ H) (w : Wk Δ Δ') : StE B Δ' C σ H := by obtain ⟨F, h⟩ := h; exact ⟨F, h.slots (Sl.weak w h.sl)⟩
/-- a new cell is let go: it is data from now on -/
theorem St.frzD {k : Nat} {l : Addr} {ds : List PyData} (h : St B Δ C σ H F) (e : C[k]? = some (l, .lst (ds.map Sd.d))) (hB : B.H l = none) : ∃ F', Ex F F' ∧ St B Δ (C.eraseIdx k) σ H F' ∧ Rep F' (.ref l) (.list ds) := by
  obtain ⟨o, h1, h2, h3, h4⟩ := h.frz e hB
  obtain ⟨xs, rfl, r⟩ := h2
  exact ⟨_, h3, h4, .lst upd_same (RepA.mono h3 _ _ r.rep)⟩
variable {D : Ends} {tu tw tz : TS} {g : TG} {P : L2.St → Hp → Prop}
theorem wp_seq (h : WP B Δ C tu { D with nx := tz D }) : WP B Δ C (tSeq tu tz) D := h
theorem wp_next (h : Nx B Δ C D.nx) : WP B Δ C tNext D := h
theorem wp_break (h : Nx B Δ C D.bk) : WP B Δ C tBreak D := h
theorem wp_cont (h : Nx B Δ C D.ct) : WP B Δ C tCont D := h
theorem wp_weak {Δ' : List Sd} (h : WP B Δ' C tu D) (w : Wk Δ Δ' := by repeat (first | exact Wk.nil | apply Wk.any | apply Wk.same)) : WP B Δ C tu D := fun σ H hs => h σ H (hs.weak w)
/-- x = e -/
theorem s_asg {i : Nat} (e : Ev B Δ C te s) (k : Nx B (Δ.set i s) C D.nx) : WP B Δ C (tAsg te (gName i)) D := fun σ H ⟨F, hs⟩ =>
  e σ H F hs _ fun v F1 H1 h1 e1 e1' w => k _ _ ⟨F1, h1.slots (Sl.set (o := some v) w i h1.sl)⟩
theorem q_asg {i : Nat} (e : Ev B Δ C te s) (k : WP B (Δ.set i s) C tz D) : WP B Δ C (tSeq (tAsg te (gName i)) tz) D := s_asg (D := { D with nx := tz D }) e k
/-- x = e, a new cell -/
theorem s_new {i : Nat} {c : Cd} (e : EvN B Δ C te c) (k : ∀ l, B.H l = none → Nx B (Δ.set i (.v (.ref l))) ((l, c) :: C) D.nx) : WP B Δ C (tAsg te (gName i)) D := fun σ H ⟨F, hs⟩ =>
  e σ H F hs _ fun v F1 H1 h1 e1 e1' w => k v (hs.free w) _ _ ⟨F1, h1.slots (Sl.set (o := some (.ref v)) (s := .v (.ref v)) rfl i h1.sl)⟩
theorem q_new {i : Nat} {c : Cd} (e : EvN B Δ C te c) (k : ∀ l, B.H l = none → WP B (Δ.set i (.v (.ref l))) ((l, c) :: C) tz D) : WP B Δ C (tSeq (tAsg te (gName i)) tz) D := s_new (D := { D with nx := tz D }) e k
/-- x, y = e -/
theorem s_tgt {js : List Nat} {d : PyData} {u : List Sd → List Sd} (e : Ev B Δ C te (.d d)) (T : Tg g js d u) (k : Nx B (u Δ) C D.nx) : WP B Δ C (tAsg te g) D := fun σ H ⟨F, hs⟩ =>
  e σ H F hs _ fun v F1 H1 h1 e1 e1' w => T F1 H1 σ Δ v h1.fh h1.sl w _ fun σ' s' _ => k _ _ ⟨F1, h1.slots s'⟩
theorem q_tgt {js : List Nat} {d : PyData} {u : List Sd → List Sd} (e : Ev B Δ C te (.d d)) (T : Tg g js d u) (k : WP B (u Δ) C tz D) : WP B Δ C (tSeq (tAsg te g) tz) D := s_tgt (D := { D with nx := tz D }) e T k
/-- e alone -/
theorem s_drop (e : Ev B Δ C te s) (k : Nx B Δ C D.nx) : WP B Δ C (tDrop te) D := fun σ H ⟨F, hs⟩ => e σ H F hs _ fun v F1 H1 h1 e1 e1' w => k _ _ ⟨F1, h1⟩
theorem q_drop (e : Ev B Δ C te s) (k : WP B Δ C tz D) : WP B Δ C (tSeq (tDrop te) tz) D := s_drop (D := { D with nx := tz D }) e k
/-- return e -/
theorem s_ret (e : Ev B Δ C te s) (k : ∀ v F H, Ext B F H → SlV F v s → D.rt v H) (hc : ∀ c ∈ C, B.H c.1 = none := by simp) : WP B Δ C (tRet te) D := fun σ H ⟨F, hs⟩ =>
  e σ H F hs _ fun v F1 H1 h1 e1 e1' w => k v F1 H1 (h1.ext hc) w
theorem q_ret (e : Ev B Δ C te s) (k : ∀ v F H, Ext B F H → SlV F v s → D.rt v H) (hc : ∀ c ∈ C, B.H c.1 = none := by simp) : WP B Δ C (tSeq (tRet te) tz) D := s_ret (D := { D with nx := tz D }) e k hc
/-- return of a cell's own list, let go: data -/
theorem s_retC {k : Nat} {l : Addr} {ds : List PyData} (hl : C[k]? = some (l, .lst (ds.map Sd.d))) (e : Ev B Δ C te (.v (.ref l))) (q : Ret B (.d (.list ds)) D.rt) (hc : ∀ c ∈ C, B.H c.1 = none := by simp) : WP B Δ C (tRet te) D := fun σ H ⟨F, hs⟩ =>
  e σ H F hs _ fun v F1 H1 h1 e1 e1' w => by
    cases w
    have hl' : B.H l = none := hc _ (List.mem_of_getElem? hl)
    obtain ⟨F2, e2, h2, r⟩ := h1.frzD hl hl'
    exact q _ F2 H1 (h2.ext fun c hx => hc c (List.mem_of_mem_eraseIdx hx)) r
/-- .. a new cell for the caller -/
theorem s_retN {k : Nat} {l : Addr} {c : Cd} (hl : C[k]? = some (l, c)) (e : Ev B Δ C te (.v (.ref l))) (q : RetN B c D.rt) (hc : ∀ c ∈ C, B.H c.1 = none := by simp) : WP B Δ C (tRet te) D := fun σ H ⟨F, hs⟩ =>
  e σ H F hs _ fun v F1 H1 h1 e1 e1' w => by
    cases w
    obtain ⟨f0, o, ho, w⟩ := h1.cell hl
    exact q l o F1 H1 (h1.ext hc) (hc _ (List.mem_of_getElem? hl)) f0 ho w
theorem s_retE {c : Cd} (e : EvN B Δ C te c) (q : RetN B c D.rt) (hc : ∀ c ∈ C, B.H c.1 = none := by simp) : WP B Δ C (tRet te) D := fun σ H ⟨F, hs⟩ =>
  e σ H F hs _ fun l F1 H1 h1 e1 e1' w => by
    obtain ⟨f0, o, ho, w'⟩ := h1.ce _ List.mem_cons_self
    refine q l o F1 H1 (h1.ext fun x hx => ?_) (hs.free w) f0 ho w'
    rcases List.mem_cons.mp hx with rfl | hx
    · exact hs.free w
    · exact hc x hx
/-- if -/
theorem s_if {b : Bool} (e : EvT B Δ C t b) (h1 : b = true → WP B Δ C tu D) (h2 : b = false → WP B Δ C tw D) : WP B Δ C (tIfS t tu tw) D := fun σ H ⟨F, hs⟩ =>
  e σ H F hs _ fun F1 H1 k1 e1 e1' => by
    cases b with
    | true => show tu D σ H1; exact h1 rfl σ H1 ⟨F1, k1⟩
    | false => show tw D σ H1; exact h2 rfl σ H1 ⟨F1, k1⟩
theorem q_if {b : Bool} (e : EvT B Δ C t b) (h1 : b = true → WP B Δ C tu { D with nx := tz D }) (h2 : b = false → WP B Δ C tw { D with nx := tz D }) : WP B Δ C (tSeq (tIfS t tu tw) tz) D := s_if (D := { D with nx := tz D }) e h1 h2
/-- if without else; what follows shown where it does not hold -/
theorem q_when {b : Bool} (e : EvT B Δ C t b) (h1 : b = true → WP B Δ C tu { D with nx := tz D }) (h2 : b = false → WP B Δ C tz D) : WP B Δ C (tSeq (tIfS t tu tNext) tz) D := q_if e h1 h2
theorem s_when {b : Bool} (e : EvT B Δ C t b) (h1 : b = true → WP B Δ C tu D) (h2 : b = false → Nx B Δ C D.nx) : WP B Δ C (tIfS t tu tNext) D := s_if e h1 h2
/-- a statement, then the rest; between them the state is told -/
theorem q_cut {Δ' : List Sd} {C' : Cs} (h : WP B Δ C tu { D with nx := StE B Δ' C' }) (k : WP B Δ' C' tz D) : WP B Δ C (Evl.tCut tu tz) D := fun σ H hs => ⟨StE B Δ' C', h σ H hs, k⟩
theorem q_cutI {α : Type} {inv : α → Prop} {Δf : α → List Sd} {Cf : α → Cs} (h : WP B Δ C tu { D with nx := fun σ H => ∃ a, inv a ∧ StE B (Δf a) (Cf a) σ H }) (k : ∀ a, inv a → WP B (Δf a) (Cf a) tz D) : WP B Δ C (Evl.tCut tu tz) D := fun σ H hs => ⟨_, h σ H hs, fun σ' H' ⟨a, ha, q⟩ => k a ha σ' H' q⟩
theorem nx_is {Δ' : List Sd} {C' : Cs} (w : Wk Δ Δ' := by repeat (first | exact Wk.nil | apply Wk.any | apply Wk.same)) (hC : C = C' := by rfl) : Nx B Δ C (StE B Δ' C') := fun σ H hs => hC ▸ hs.weak w

/-- what is not reached -/
theorem s_nevT {b : Bool} (e : EvT B Δ C t b) (hb : b = false) (k : WP B Δ C tz D) : WP B Δ C (tSeq (tIfS t tNever tNext) tz) D := q_when e (fun z => by rw [hb] at z; cases z) fun _ => k
theorem s_nev {b : Bool} (e : EvT B Δ C t b) (hb : b = false) (k : Nx B Δ C D.nx) : WP B Δ C (tIfS t tNever tNext) D := s_when e (fun z => by rw [hb] at z; cases z) fun _ => k
theorem q_no {b : Bool} (e : EvT B Δ C t b) (hb : b = false) (k : WP B Δ C tz D) : WP B Δ C (tSeq (tIfS t tu tNext) tz) D := q_when e (fun z => by rw [hb] at z; cases z) fun _ => k
theorem s_no {b : Bool} (e : EvT B Δ C t b) (hb : b = false) (k : Nx B Δ C D.nx) : WP B Δ C (tIfS t tu tNext) D := s_when e (fun z => by rw [hb] at z; cases z) fun _ => k
theorem q_yes {b : Bool} (e : EvT B Δ C t b) (hb : b = true) (k : WP B Δ C tu { D with nx := tz D }) : WP B Δ C (tSeq (tIfS t tu tw) tz) D := q_if e (fun _ => k) fun z => by rw [hb] at z; cases z
theorem q_else {b : Bool} (e : EvT B Δ C t b) (hb : b = false) (k : WP B Δ C tw { D with nx := tz D }) : WP B Δ C (tSeq (tIfS t tu tw) tz) D := q_if e (fun z => by rw [hb] at z; cases z) fun _ => k
theorem q_cutNo {b : Bool} (e : EvT B Δ C t b) (hb : b = false) (k : WP B Δ C tz D) : WP B Δ C (Evl.tCut (tIfS t tu tNext) tz) D := q_cut (s_no e hb (fun _ _ h => h)) k
theorem rv_eqB {a b : Bool} : RV B Δ C rEq (.d (.bool a)) (.d (.bool b)) (.d (.bool (a == b))) := fun σ H F h x y h1 h2 Q q => by
  cases h1; cases h2
  refine ⟨rfl, ?_⟩
  have e : decide (V.bl a = V.bl b) = (a == b) := by cases a <;> cases b <;> rfl
  rw [e]; exact q.now h (.bl _)
theorem rv_neB {a b : Bool} : RV B Δ C rNe (.d (.bool a)) (.d (.bool b)) (.d (.bool (a != b))) := fun σ H F h x y h1 h2 Q q => by
  cases h1; cases h2
  refine ⟨rfl, ?_⟩
  have e : (!decide (V.bl a = V.bl b)) = (a != b) := by cases a <;> cases b <;> rfl
  rw [e]; exact q.now h (.bl _)
/-- and, or: told by what the first way says -/
theorem et_andT {a b : Bool} (h1 : EvT B Δ C t a) (ha : a = true) (h2 : EvT B Δ C u b) : EvT B Δ C (tAnd t u) b := by
  subst ha; exact evT_eq (et_and h1 fun _ => h2) rfl
theorem et_orF {a b : Bool} (h1 : EvT B Δ C t a) (ha : a = false) (h2 : EvT B Δ C u b) : EvT B Δ C (tOr t u) b := by
  subst ha; exact evT_eq (et_or h1 fun _ => h2) rfl
theorem et_nF {a : Bool} (h1 : EvT B Δ C t a) (ha : a = true) : EvT B Δ C (tNot t) false := by
  subst ha; exact et_not h1
theorem et_nT {a : Bool} (h1 : EvT B Δ C t a) (ha : a = false) : EvT B Δ C (tNot t) true := by
  subst ha; exact et_not h1

/-! #### loops -/
def InvS {α : Type} (B : Base) (inv : α → Prop) (Δf : α → List Sd) (Cf : α → Cs) : L2.St → Hp → Prop := fun σ H => ∃ a, inv a ∧ StE B (Δf a) (Cf a) σ H
theorem nx_inv {α : Type} {inv : α → Prop} {Δf : α → List Sd} {Cf : α → Cs} (a : α) (h : inv a) (w : Wk Δ (Δf a) := by repeat (first | exact Wk.nil | apply Wk.any | apply Wk.same)) (hC : C = Cf a := by rfl) : Nx B Δ C (InvS B inv Δf Cf) := fun σ H hs => ⟨a, h, hC ▸ hs.weak w⟩
def ExM (F1 : Hp) : Mono := ⟨fun F _ => Ex F1 F, fun _ _ _ e h => h.trans e⟩
theorem St.addG (h : St B Δ C σ H F) {v : V} {s : Sd} (w : SlV F v s) : St ⟨B.F, B.H, (v, s) :: B.G⟩ Δ C σ H F := ⟨h.ff, h.fh, h.hh, h.gr, h.sl, h.ce, h.nd, fun g hg => by
  rcases List.mem_cons.mp hg with rfl | hg
  · exact w
  · exact h.gg g hg⟩
theorem St.dropG {x : V × Sd} {G : List (V × Sd)} (h : St ⟨B.F, B.H, x :: G⟩ Δ C σ H F) : St ⟨B.F, B.H, G⟩ Δ C σ H F := ⟨h.ff, h.fh, h.hh, h.gr, h.sl, h.ce, h.nd, fun g hg => h.gg g (List.mem_cons_of_mem _ hg)⟩
/-- for: inv, Δf, Cf tell the state ahead of each turn -/
theorem s_for {α : Type} {wi : TI} {js : List Nat} {ds : List PyData} (src : Src B Δ C wi ds) (u : PyData → List Sd → List Sd) (T : ∀ d ∈ ds, Tg g js d (u d)) (inv : Nat → α → Prop) (Δf : Nat → α → List Sd) (Cf : Nat → α → Cs)
    (h0 : ∀ G, Nx ⟨B.F, B.H, G⟩ Δ C (InvS ⟨B.F, B.H, G⟩ (inv 0) (Δf 0) (Cf 0)))
    (body : ∀ G i a d, ds[i]? = some d → inv i a → WP ⟨B.F, B.H, G⟩ (u d (Δf i a)) (Cf i a) tu { D with nx := InvS ⟨B.F, B.H, G⟩ (inv (i + 1)) (Δf (i + 1)) (Cf (i + 1)), ct := InvS ⟨B.F, B.H, G⟩ (inv (i + 1)) (Δf (i + 1)) (Cf (i + 1)), bk := D.nx })
    (done : ∀ a, inv ds.length a → Nx B (Δf ds.length a) (Cf ds.length a) D.nx) : WP B Δ C (tFor wi g tu) D := fun σ H ⟨F, hs⟩ => src σ H F hs _ fun J F1 H1 h1 e1 e1' wk => by
  let B' : Base := ⟨B.F, B.H, (.non, .p (ExM F1)) :: B.G⟩
  refine ⟨fun i m σ' H' => m = ds.length - i ∧ i ≤ ds.length ∧ InvS B' (inv i) (Δf i) (Cf i) σ' H', ⟨ds.length, by simp, Nat.zero_le _, ?_⟩, ?_⟩
  · exact h0 B'.G σ H1 ⟨F1, h1.addG (s := .p (ExM F1)) (Ex.refl F1)⟩
  · rintro i m σ' H' ⟨rfl, hi, a, ha, F2, k2⟩
    have f12 : Ex F1 F2 := k2.gg (.non, .p (ExM F1)) List.mem_cons_self
    by_cases hlt : i < ds.length
    · obtain ⟨w1, w2⟩ := wk.1 i F2 H' f12 k2.fh hlt
      refine .inr ⟨w1, InvS B' (inv (i + 1)) (Δf (i + 1)) (Cf (i + 1)), fun σ2 H2 p => ⟨ds.length - (i + 1), by omega, rfl, hlt, p⟩, fun x H2 y => ?_⟩
      obtain ⟨rfl, d, hd, rd⟩ := w2 x H2 y
      refine T d (List.mem_of_getElem? hd) F2 H2 σ' _ x k2.fh k2.sl rd _ fun σ2 s2 _ => ?_
      exact body B'.G i a d hd ha σ2 H2 ⟨F2, k2.slots s2⟩
    · have hi' : i = ds.length := by omega
      subst hi'
      exact .inl ⟨wk.2 _ F2 H' f12 k2.fh (Nat.le_refl _), done a ha σ' H' ⟨F2, k2.dropG⟩⟩
theorem q_for {α : Type} {wi : TI} {js : List Nat} {ds : List PyData} (src : Src B Δ C wi ds) (u : PyData → List Sd → List Sd) (T : ∀ d ∈ ds, Tg g js d (u d)) (inv : Nat → α → Prop) (Δf : Nat → α → List Sd) (Cf : Nat → α → Cs)
    (h0 : ∀ G, Nx ⟨B.F, B.H, G⟩ Δ C (InvS ⟨B.F, B.H, G⟩ (inv 0) (Δf 0) (Cf 0)))
    (body : ∀ G i a d, ds[i]? = some d → inv i a → WP ⟨B.F, B.H, G⟩ (u d (Δf i a)) (Cf i a) tu { D with nx := InvS ⟨B.F, B.H, G⟩ (inv (i + 1)) (Δf (i + 1)) (Cf (i + 1)), ct := InvS ⟨B.F, B.H, G⟩ (inv (i + 1)) (Δf (i + 1)) (Cf (i + 1)), bk := tz D })
    (done : ∀ a, inv ds.length a → WP B (Δf ds.length a) (Cf ds.length a) tz D) : WP B Δ C (tSeq (tFor wi g tu) tz) D := s_for (D := { D with nx := tz D }) src u T inv Δf Cf h0 body done
/-- for x in data of one kind -/
theorem s_for1 {α β : Type} {wi : TI} {j : Nat} {as : List β} (enc : β → PyData) (src : Src B Δ C wi (as.map enc)) (inv : Nat → α → Prop) (Δf : Nat → α → List Sd) (Cf : Nat → α → Cs)
    (h0 : ∀ G, Nx ⟨B.F, B.H, G⟩ Δ C (InvS ⟨B.F, B.H, G⟩ (inv 0) (Δf 0) (Cf 0)))
    (body : ∀ G i a b, as[i]? = some b → inv i a → WP ⟨B.F, B.H, G⟩ ((Δf i a).set j (.d (enc b))) (Cf i a) tu { D with nx := InvS ⟨B.F, B.H, G⟩ (inv (i + 1)) (Δf (i + 1)) (Cf (i + 1)), ct := InvS ⟨B.F, B.H, G⟩ (inv (i + 1)) (Δf (i + 1)) (Cf (i + 1)), bk := D.nx })
    (done : ∀ a, inv as.length a → Nx B (Δf as.length a) (Cf as.length a) D.nx) : WP B Δ C (tFor wi (gName j) tu) D :=
  s_for (js := [j]) src (fun d Δ => Δ.set j (.d d)) (fun _ _ => tg_name) inv Δf Cf h0 (fun G i a d hd hi => by
    rw [List.getElem?_map] at hd
    cases q : as[i]? with
    | none => rw [q] at hd; cases hd
    | some o =>
      rw [q] at hd
      have e : enc o = d := Option.some.inj hd
      subst e
      exact body G i a o q hi) (fun a ha => by rw [List.length_map] at ha ⊢; exact done a ha)
theorem q_for1 {α β : Type} {wi : TI} {j : Nat} {as : List β} (enc : β → PyData) (src : Src B Δ C wi (as.map enc)) (inv : Nat → α → Prop) (Δf : Nat → α → List Sd) (Cf : Nat → α → Cs)
    (h0 : ∀ G, Nx ⟨B.F, B.H, G⟩ Δ C (InvS ⟨B.F, B.H, G⟩ (inv 0) (Δf 0) (Cf 0)))
    (body : ∀ G i a b, as[i]? = some b → inv i a → WP ⟨B.F, B.H, G⟩ ((Δf i a).set j (.d (enc b))) (Cf i a) tu { D with nx := InvS ⟨B.F, B.H, G⟩ (inv (i + 1)) (Δf (i + 1)) (Cf (i + 1)), ct := InvS ⟨B.F, B.H, G⟩ (inv (i + 1)) (Δf (i + 1)) (Cf (i + 1)), bk := tz D })
    (done : ∀ a, inv as.length a → WP B (Δf as.length a) (Cf as.length a) tz D) : WP B Δ C (tSeq (tFor wi (gName j) tu) tz) D := s_for1 (D := { D with nx := tz D }) enc src inv Δf Cf h0 body done
/-- for over a list of the caller's, that stands as it is -/
theorem s_forA {α β : Type} {j : Nat} {l : Addr} {xs : List V} {as : List β} (enc : β → PyData) (hB : B.H l = some (.lst xs)) (hr : RepA B.F xs (as.map enc)) (e : Ev B Δ C te (.v (.ref l))) (inv : Nat → α → Prop) (Δf : Nat → α → List Sd) (Cf : Nat → α → Cs)
    (hC : ∀ i a, inv i a → l ∉ (Cf i a).map (·.1)) (h0 : Nx B Δ C (InvS B (inv 0) (Δf 0) (Cf 0))) (hC0 : l ∉ C.map (·.1))
    (body : ∀ i a b, as[i]? = some b → inv i a → WP B ((Δf i a).set j (.d (enc b))) (Cf i a) tu { D with nx := InvS B (inv (i + 1)) (Δf (i + 1)) (Cf (i + 1)), ct := InvS B (inv (i + 1)) (Δf (i + 1)) (Cf (i + 1)), bk := D.nx })
    (done : ∀ a, inv as.length a → Nx B (Δf as.length a) (Cf as.length a) D.nx) : WP B Δ C (tFor (iList K te) (gName j) tu) D := fun σ H ⟨F, hs⟩ => e σ H F hs _ fun v F1 H1 h1 e1 e1' w => by
  cases w
  have hl : xs.length = as.length := by rw [hr.length, List.length_map]
  refine ⟨l, rfl, ⟨xs, SqL.of (h1.hh _ _ hC0 hB)⟩, for_list (xs := xs) (fun i σ' H' => InvS B (inv i) (Δf i) (Cf i) σ' H') (h0 σ H1 ⟨F1, h1⟩) ?_ ?_ ?_⟩
  · rintro i σ' H' hi ⟨a, ha, F2, k2⟩
    exact SqL.of (k2.hh _ _ (hC i a ha) hB)
  · rintro i x σ' H' hx ⟨a, ha, F2, k2⟩
    obtain ⟨d, hd, rd⟩ := hr.get hx
    rw [List.getElem?_map] at hd
    cases q : as[i]? with
    | none => rw [q] at hd; cases hd
    | some o =>
      rw [q] at hd
      have ed : enc o = d := Option.some.inj hd
      subst ed
      exact body i a o q ha _ H' ⟨F2, k2.slots (Sl.setd (Rep.mono k2.ff _ _ rd) j k2.sl)⟩
  · rintro σ' H' ⟨a, ha, q⟩
    rw [hl] at ha q
    exact done a ha σ' H' q
theorem rc_lenA {l : Addr} {xs : List V} (hB : B.H l = some (.lst xs)) (hC : l ∉ C.map (·.1)) : RC B Δ C (fun xs H Q => ∃ p ys, xs = [.ref p] ∧ (SqL K H p ys ∨ SqT K H p ys) ∧ Q (.int ys.length) H) [.v (.ref l)] (.d (.int (xs.length : Nat))) := fun σ H F hs zs w Q q => by
  cases w with | cons w w' => cases w'; cases w; exact ⟨l, xs, rfl, .inl (SqL.of (hs.hh _ _ hC hB)), q.now hs (.int _)⟩
theorem rc_isiLA {l : Addr} {xs : List V} (hB : B.H l = some (.lst xs)) (hC : l ∉ C.map (·.1)) : RC B Δ C (rIsi K) [.v (.ref l), .v (.ty "list")] (.d (.bool true)) := fun σ H F hs zs w Q q => by
  cases w with | cons w w' => cases w' with | cons w2 w3 =>
    cases w3; cases w2; cases w
    exact ⟨_, _, _, _, true, rfl, .ty _, .base (.lst (hs.hh _ _ hC hB)), kit_ty kit_ll, q.now hs (.bl _)⟩
/-- of a list in a cell -/
theorem rc_isiC {k : Nat} {l : Addr} {ss : List Sd} (hc : C[k]? = some (l, .lst ss)) : RC B Δ C (rIsi K) [.v (.ref l), .v (.ty "list")] (.d (.bool true)) := fun σ H F hs zs w Q q => by
  cases w with | cons w w' => cases w' with | cons w2 w3 =>
    cases w3; cases w2; cases w
    obtain ⟨_, o, ho, xs, rfl, r⟩ := hs.cell hc
    exact ⟨_, _, _, _, true, rfl, .ty _, .base (.lst ho), kit_ty kit_ll, q.now hs (.bl _)⟩
/-! #### seen from now -/
/-- the very values -/
def pinO : Option V → Sd
  | Option.some v => .v v
  | Option.none => .no
theorem Sl.pin {F : Hp} : ∀ (σ : L2.St), Sl F σ (σ.map pinO)
  | [] => .nil
  | Option.some _ :: σ => .cons rfl (Sl.pin σ)
  | Option.none :: σ => .cons trivial (Sl.pin σ)
theorem SlO.isNo {F : Hp} : ∀ {o : Option V}, SlO F o .no → o = Option.none
  | Option.some _, h => h.elim
  | Option.none, _ => rfl
theorem q_pin (h : ∀ σ H F, St B Δ C σ H F → WP ⟨F, H, []⟩ (σ.map pinO) C tu D) : WP B Δ C tu D := fun σ H ⟨F, hs⟩ =>
  h σ H F hs σ H ⟨F, ⟨Ex.refl F, hs.fh, fun _ _ _ e => e, fun _ n => .inl n, Sl.pin σ, hs.ce, hs.nd, fun g hg => by cases hg⟩⟩
/-- what is told of the very value -/
theorem ev_up {v : V} (e : Ev B Δ C te (.v v)) (h : SlV B.F v s) : Ev B Δ C te s := fun σ H F hs Q q => e σ H F hs Q fun x F' H' a b c w => by
  cases w
  exact q _ F' H' a b c (h.mono a.ff)
/-- all that stands is the base; no cells -/
theorem q_base (h : ∀ σ H F, St B Δ C σ H F → WP ⟨F, H, []⟩ Δ [] tu D) : WP B Δ C tu D := fun σ H ⟨F, hs⟩ =>
  h σ H F hs σ H ⟨F, ⟨Ex.refl F, hs.fh, fun _ _ _ e => e, fun _ n => .inl n, hs.sl, (fun c hc => by cases hc), List.nodup_nil, fun g hg => by cases hg⟩⟩
/-- slots told by values alone -/
inductive Pinned : List Sd → Prop
  | nil : Pinned []
  | v {x : V} {Δ : List Sd} : Pinned Δ → Pinned (.v x :: Δ)
  | no {Δ : List Sd} : Pinned Δ → Pinned (.no :: Δ)
  | any {Δ : List Sd} : Pinned Δ → Pinned (.any :: Δ)
theorem SlO.pinV {F F' : Hp} {x : V} : ∀ {o : Option V}, SlO F o (.v x) → SlO F' o (.v x)
  | Option.some _, h => h
  | Option.none, h => h
theorem SlO.pinN {F F' : Hp} : ∀ {o : Option V}, SlO F o .no → SlO F' o .no
  | Option.some _, h => h
  | Option.none, h => h
theorem Sl.pinned {F F' : Hp} : ∀ {σ : L2.St} {Δ : List Sd}, Pinned Δ → Sl F σ Δ → Sl F' σ Δ
  | _, _, .nil, .nil => .nil
  | _, _, .v p, .cons r t => .cons (SlO.pinV r) (Sl.pinned p t)
  | _, _, .no p, .cons r t => .cons (SlO.pinN r) (Sl.pinned p t)
  | _, _, .any p, .cons r t => .cons SlO.any (Sl.pinned p t)
theorem s_retX (e : Ev B Δ C te s) (k : ∀ v F H σ, St B Δ C σ H F → SlV F v s → D.rt v H) : WP B Δ C (tRet te) D := fun σ H ⟨F, hs⟩ =>
  e σ H F hs _ fun v F1 H1 h1 e1 e1' w => k v F1 H1 σ h1 w
/-- a cell read as data, its items told -/
theorem now_cs (k : Nat) {l : Addr} {ss : List Sd} {ds : List PyData} (hc : C[k]? = some (l, .lst ss)) (hr : ∀ F xs, SlA F xs ss → RepA F xs ds) : Now K B Δ C (.v (.ref l)) (.list ds) := fun σ H F v hs h => by
  cases h
  obtain ⟨_, o, ho, xs, rfl, r⟩ := hs.cell hc
  exact .lst (SqL.of ho) (RepA.dp _ _ (RepA.mono hs.fh _ _ (hr F xs r)))
/-- a list of the base's -/
theorem rc_isiB {l : Addr} {xs : List V} (hB : B.H l = some (.lst xs)) (hC : l ∉ C.map (·.1)) : RC B Δ C (rIsi K) [.v (.ref l), .v (.ty "list")] (.d (.bool true)) := rc_isiLA hB hC
/-- list(range(n)) -/
theorem evN_listRg {n : Nat} (h : Ev B Δ C te (.d (.int (n : Int)))) (hn : n ≤ 100000 := by omega) : EvN B Δ C (tLstRg (tRg1 te)) (.lst ((List.range n).map fun i : Nat => Sd.d (.int (i : Int)))) := fun σ H F hs Q q =>
  h σ H F hs _ fun v F1 H1 h1 e1 e1' w => by
    cases w
    refine ⟨n, rfl, L2.RgOk.of_le (by omega) (by omega) (by omega) (by omega), (q.later e1 e1').made h1 ⟨_, rfl, ?_⟩⟩
    have e : L2.rgV 0 (n : Int) = (List.range n).map fun i : Nat => V.int (i : Int) := by
      unfold L2.rgV
      rw [Int.sub_zero, Int.toNat_natCast]
      refine List.map_congr_left fun i _ => ?_
      rw [Int.zero_add]
    rw [e]
    have h : ∀ l : List Nat, SlA F1 (l.map fun i : Nat => V.int (i : Int)) (l.map fun i : Nat => Sd.d (.int (i : Int))) := by
      intro l
      induction l with
      | nil => exact .nil
      | cons i l ih => exact .cons (Rep.int _) ih
    exact h _
/-- while: m falls -/
theorem s_while {α : Type} {tc : TT} (inv : α → Prop) (m : α → Nat) (Δf : α → List Sd) (Cf : α → Cs) (tst : α → Bool) (h0 : Nx B Δ C (InvS B inv Δf Cf))
    (test : ∀ a, inv a → EvT B (Δf a) (Cf a) tc (tst a))
    (body : ∀ a, inv a → tst a = true → WP B (Δf a) (Cf a) tu { D with nx := InvS B (fun a' => inv a' ∧ m a' < m a) Δf Cf, ct := InvS B (fun a' => inv a' ∧ m a' < m a) Δf Cf, bk := D.nx })
    (done : ∀ a, inv a → tst a = false → Nx B (Δf a) (Cf a) D.nx) : WP B Δ C (tWhile tc tu) D := fun σ H hs => by
  obtain ⟨a0, i0, k0⟩ := h0 σ H hs
  refine ⟨fun n σ' H' => ∃ a, inv a ∧ m a = n ∧ StE B (Δf a) (Cf a) σ' H', ⟨m a0, a0, i0, rfl, k0⟩, ?_⟩
  rintro n σ' H' ⟨a, ha, rfl, F2, k⟩
  refine test a ha σ' H' F2 k _ fun F3 H3 k3 e3 e3' => ?_
  cases hb : tst a with
  | true =>
    rw [if_pos rfl]
    exact ⟨InvS B (fun a' => inv a' ∧ m a' < m a) Δf Cf, fun σ4 H4 ⟨a4, ⟨i4, l4⟩, q4⟩ => ⟨m a4, l4, a4, i4, rfl, q4⟩, body a ha hb σ' H3 ⟨F3, k3⟩⟩
  | false =>
    rw [if_neg (by decide)]
    exact done a ha hb σ' H3 ⟨F3, k3⟩
theorem q_while {α : Type} {tc : TT} (inv : α → Prop) (m : α → Nat) (Δf : α → List Sd) (Cf : α → Cs) (tst : α → Bool) (h0 : Nx B Δ C (InvS B inv Δf Cf))
    (test : ∀ a, inv a → EvT B (Δf a) (Cf a) tc (tst a))
    (body : ∀ a, inv a → tst a = true → WP B (Δf a) (Cf a) tu { D with nx := InvS B (fun a' => inv a' ∧ m a' < m a) Δf Cf, ct := InvS B (fun a' => inv a' ∧ m a' < m a) Δf Cf, bk := tz D })
    (done : ∀ a, inv a → tst a = false → WP B (Δf a) (Cf a) tz D) : WP B Δ C (tSeq (tWhile tc tu) tz) D := s_while (D := { D with nx := tz D }) inv m Δf Cf tst h0 test body done

/-! #### cells change -/
/-- xs.append(e) -/
theorem s_app {k : Nat} {l : Addr} {ss : List Sd} (hc : C[k]? = some (l, .lst ss)) (ho : Ev B Δ C ta (.v (.ref l))) (e : Ev B Δ C te s) (kk : Nx B Δ (C.set k (l, .lst (ss ++ [s]))) D.nx) (hz : ss.length < 100000 := by omega) : WP B Δ C (tDrop (tBM K "list" rAppend ta (tCons te tNil))) D := fun σ H ⟨F, hs⟩ =>
  ho σ H F hs _ fun v F1 H1 h1 e1 e1' w => by
    cases w
    obtain ⟨_, o, hx, xs, rfl, _⟩ := h1.cell hc
    refine ⟨.inl ⟨rfl, xs, SqL.of hx⟩, e σ H1 F1 h1 _ fun y F2 H2 h2 e2 e2' w2 => ?_⟩
    obtain ⟨_, o, hx, xs, rfl, r⟩ := h2.cell hc
    exact ⟨l, xs, y, rfl, rfl, hx, sz_lt (by rw [r.length]; exact hz), kk _ _ ⟨F2, h2.put hc ⟨_, rfl, r.append (.cons w2 .nil)⟩⟩⟩
theorem q_app {k : Nat} {l : Addr} {ss : List Sd} (hc : C[k]? = some (l, .lst ss)) (ho : Ev B Δ C ta (.v (.ref l))) (e : Ev B Δ C te s) (kk : WP B Δ (C.set k (l, .lst (ss ++ [s]))) tz D) (hz : ss.length < 100000 := by omega) : WP B Δ C (tSeq (tDrop (tBM K "list" rAppend ta (tCons te tNil))) tz) D := s_app (D := { D with nx := tz D }) hc ho e kk hz
/-- a cell of ours is forgotten -/
theorem St.dropC {x : Addr × Cd} (h : St B Δ (x :: C) σ H F) (hx : B.H x.1 = none) : St B Δ C σ H F := ⟨h.ff, h.fh, fun a o n e => h.hh a o (fun z => by
  rcases List.mem_cons.mp z with rfl | z
  · rw [hx] at e; cases e
  · exact n z) e, h.gr, h.sl, fun c hc => h.ce c (List.mem_cons_of_mem _ hc), (List.nodup_cons.mp h.nd).2, h.gg⟩
/-- .append to what was just made -/
theorem s_appN {ss : List Sd} (ho : EvN B Δ C ta (.lst ss)) (e : ∀ l, B.H l = none → Ev B Δ ((l, .lst ss) :: C) te s) (kk : Nx B Δ C D.nx) (hz : ss.length < 100000 := by omega) : WP B Δ C (tDrop (tBM K "list" rAppend ta (tCons te tNil))) D := fun σ H ⟨F, hs⟩ =>
  ho σ H F hs _ fun l F1 H1 h1 e1 e1' hl => by
    have hB := hs.free hl
    obtain ⟨_, o, hx, xs, rfl, _⟩ := h1.ce _ List.mem_cons_self
    refine ⟨.inl ⟨rfl, xs, SqL.of hx⟩, e l hB σ H1 F1 h1 _ fun y F2 H2 h2 e2 e2' w2 => ?_⟩
    obtain ⟨_, o, hx, xs, rfl, r⟩ := h2.ce _ List.mem_cons_self
    exact ⟨l, xs, y, rfl, rfl, hx, sz_lt (by rw [r.length]; exact hz), kk _ _ ⟨F2, (h2.put (k := 0) rfl (c' := .lst (ss ++ [s])) ⟨_, rfl, r.append (.cons w2 .nil)⟩).dropC hB⟩⟩
theorem q_appN {ss : List Sd} (ho : EvN B Δ C ta (.lst ss)) (e : ∀ l, B.H l = none → Ev B Δ ((l, .lst ss) :: C) te s) (kk : WP B Δ C tz D) (hz : ss.length < 100000 := by omega) : WP B Δ C (tSeq (tDrop (tBM K "list" rAppend ta (tCons te tNil))) tz) D := s_appN (D := { D with nx := tz D }) ho e kk hz
/-- xs[i] = e -/
theorem s_setL {k j : Nat} {l : Addr} {ss : List Sd} {i : Int} (hc : C[k]? = some (l, .lst ss)) (e : Ev B Δ C te s) (ho : Ev B Δ C ta (.v (.ref l))) (hi : Ev B Δ C tb (.d (.int i))) (hj : ixN ss.length i = some j) (kk : Nx B Δ (C.set k (l, .lst (ss.set j s))) D.nx) : WP B Δ C (tAsg te (gSub ta tb rSetL)) D := fun σ H ⟨F, hs⟩ =>
  e σ H F hs _ fun v F1 H1 h1 e1 e1' w1 => ho σ H1 F1 h1 _ fun x F2 H2 h2 e2 e2' w2 => hi σ H2 F2 h2 _ fun y F3 H3 h3 e3 e3' w3 => by
    cases w2; cases w3
    obtain ⟨_, o, hx, xs, rfl, r⟩ := h3.cell hc
    exact ⟨l, xs, i, j, rfl, rfl, hx, by rw [r.length]; exact hj, kk _ _ ⟨F3, h3.put hc ⟨_, rfl, r.set (w1.mono (e2.trans e3)) j⟩⟩⟩
theorem q_setL {k j : Nat} {l : Addr} {ss : List Sd} {i : Int} (hc : C[k]? = some (l, .lst ss)) (e : Ev B Δ C te s) (ho : Ev B Δ C ta (.v (.ref l))) (hi : Ev B Δ C tb (.d (.int i))) (hj : ixN ss.length i = some j) (kk : WP B Δ (C.set k (l, .lst (ss.set j s))) tz D) : WP B Δ C (tSeq (tAsg te (gSub ta tb rSetL)) tz) D := s_setL (D := { D with nx := tz D }) hc e ho hi hj kk
theorem ixN_nat {n j : Nat} (hj : j < n) : ixN n (j : Int) = some j := by
  unfold ixN
  rw [if_pos (by omega), if_pos (by omega)]
  simp

/-! #### dicts -/
def lookA {κ β : Type} [DecidableEq κ] (kvs : List (κ × β)) (k : κ) : Option β := (kvs.find? fun kv => decide (kv.1 = k)).map (·.2)
def putA {κ β : Type} [DecidableEq κ] (kvs : List (κ × β)) (k : κ) (v : β) : List (κ × β) :=
  if (kvs.any fun kv => decide (kv.1 = k)) = true then kvs.map (fun kv => if kv.1 = k then (kv.1, v) else kv) else kvs ++ [(k, v)]
def dropA {κ β : Type} [DecidableEq κ] (kvs : List (κ × β)) (k : κ) : List (κ × β) := kvs.filter fun kv => decide (kv.1 ≠ k)
theorem lookA_nil {κ β : Type} [DecidableEq κ] {k : κ} : lookA ([] : List (κ × β)) k = none := rfl
theorem lookA_cons {κ β : Type} [DecidableEq κ] {p : κ × β} {r : List (κ × β)} {k : κ} : lookA (p :: r) k = if p.1 = k then some p.2 else lookA r k := by
  unfold lookA
  by_cases e : p.1 = k <;> simp [List.find?_cons, e]
theorem lookA_put {κ β : Type} [DecidableEq κ] (kvs : List (κ × β)) (k j : κ) (y : β) : lookA (putA kvs k y) j = if j = k then some y else lookA kvs j := by
  unfold putA
  split
  · rename_i h
    have hh : ∀ (l : List (κ × β)), lookA (l.map fun kv => if kv.1 = k then (kv.1, y) else kv) j = (lookA l j).map fun x => if j = k then y else x := by
      intro l
      induction l with
      | nil => rfl
      | cons p r ih =>
        rw [List.map_cons, lookA_cons, lookA_cons, ih]
        by_cases e : p.1 = k
        · rw [if_pos e]
          by_cases e2 : p.1 = j
          · have : j = k := e2 ▸ e
            simp [e2, this]
          · simp [e2]
        · rw [if_neg e]
          by_cases e2 : p.1 = j
          · have : ¬ j = k := fun z => e (e2.trans z)
            simp [e2, this]
          · simp [e2]
    rw [hh]
    by_cases e : j = k
    · subst e
      have hs : ∃ x, lookA kvs j = some x := by
        obtain ⟨p, hp, hk⟩ := List.any_eq_true.mp h
        cases q : lookA kvs j with
        | some x => exact ⟨x, rfl⟩
        | none =>
          unfold lookA at q
          rw [Option.map_eq_none_iff, List.find?_eq_none] at q
          exact absurd hk (q p hp)
      obtain ⟨x, hx⟩ := hs
      rw [hx]; simp
    · rw [if_neg e]
      cases lookA kvs j <;> simp [e]
  · rename_i h
    have hn : ∀ (l : List (κ × β)), (l.any fun kv => decide (kv.1 = k)) = false → lookA (l ++ [(k, y)]) j = if j = k then some y else lookA l j := by
      intro l
      induction l with
      | nil => intro _; rw [List.nil_append, lookA_cons, lookA_nil]; by_cases e : k = j
               · simp [e]
               · have : ¬ j = k := fun z => e z.symm
                 simp [e, this]
      | cons p r ih =>
        intro hl
        rw [List.any_cons, Bool.or_eq_false_iff] at hl
        rw [List.cons_append, lookA_cons, lookA_cons, ih hl.2]
        have h1 : ¬ p.1 = k := by simpa using hl.1
        by_cases e2 : p.1 = j
        · have : ¬ j = k := fun z => h1 (e2.trans z)
          simp [e2, this]
        · simp [e2]
    exact hn kvs (Bool.eq_false_iff.mpr h)
theorem putA_new {κ β : Type} [DecidableEq κ] {kvs : List (κ × β)} {k : κ} (v : β) (h : lookA kvs k = none) : putA kvs k v = kvs ++ [(k, v)] := by
  unfold putA
  rw [if_neg]
  intro z
  obtain ⟨p, hp, hk⟩ := List.any_eq_true.mp z
  unfold lookA at h
  rw [Option.map_eq_none_iff, List.find?_eq_none] at h
  exact h p hp hk
theorem putA_len {κ β : Type} [DecidableEq κ] (kvs : List (κ × β)) (k : κ) (v : β) : (putA kvs k v).length ≤ kvs.length + 1 := by
  unfold putA
  split
  · rw [List.length_map]; omega
  · rw [List.length_append]; exact Nat.le_refl _
theorem dropA_len {κ β : Type} [DecidableEq κ] (kvs : List (κ × β)) (k : κ) : (dropA kvs k).length ≤ kvs.length := List.length_filter_le _ _
theorem KvA.look {κ : Type} [DecidableEq κ] {F : Hp} {vs : List (κ × V)} {kvs : List (κ × Sd)} (h : KvA F vs kvs) (k : κ) : (valV vs k = none ∧ lookA kvs k = none) ∨ ∃ v s, valV vs k = some v ∧ lookA kvs k = some s ∧ SlV F v s := by
  induction h with
  | nil => exact .inl ⟨rfl, rfl⟩
  | @cons p q l1 l2 r t ih =>
    obtain ⟨e, w⟩ := r
    by_cases z : p.1 = k
    · exact .inr ⟨p.2, q.2, valV_pos z, by rw [lookA_cons, if_pos (e.symm.trans z)], w⟩
    · rw [valV_neg z, lookA_cons, if_neg (fun y => z (e.trans y))]
      exact ih
theorem KvA.any {κ : Type} [DecidableEq κ] {F : Hp} {vs : List (κ × V)} {kvs : List (κ × Sd)} (h : KvA F vs kvs) (k : κ) : (vs.any fun kv => decide (kv.1 = k)) = (kvs.any fun kv => decide (kv.1 = k)) := by
  induction h with
  | nil => rfl
  | @cons p q l1 l2 r t ih => rw [List.any_cons, List.any_cons, ih, r.1]
theorem KvA.put {κ : Type} [DecidableEq κ] {F : Hp} {vs : List (κ × V)} {kvs : List (κ × Sd)} (h : KvA F vs kvs) (k : κ) {v : V} {s : Sd} (w : SlV F v s) : KvA F (putK vs k v) (putA kvs k s) := by
  unfold putK putA
  rw [h.any k]
  split
  · have hm : ∀ {l1 : List (κ × V)} {l2 : List (κ × Sd)}, KvA F l1 l2 → KvA F (l1.map fun kv => if kv.1 = k then (kv.1, v) else kv) (l2.map fun kv => if kv.1 = k then (kv.1, s) else kv) := by
      intro l1 l2 hl
      induction hl with
      | nil => exact .nil
      | @cons p q l1 l2 r t ih =>
        refine .cons ?_ ih
        show (if p.1 = k then (p.1, v) else p).1 = (if q.1 = k then (q.1, s) else q).1 ∧ SlV F (if p.1 = k then (p.1, v) else p).2 (if q.1 = k then (q.1, s) else q).2
        rw [r.1]
        by_cases z : q.1 = k
        · rw [if_pos z, if_pos z]; exact ⟨rfl, w⟩
        · rw [if_neg z, if_neg z]; exact r
    exact hm h
  · have ha : ∀ {l1 : List (κ × V)} {l2 : List (κ × Sd)}, KvA F l1 l2 → KvA F (l1 ++ [(k, v)]) (l2 ++ [(k, s)]) := by
      intro l1 l2 hl
      induction hl with
      | nil => exact .cons ⟨rfl, w⟩ .nil
      | cons r t ih => exact .cons r ih
    exact ha h
theorem KvA.drop {κ : Type} [DecidableEq κ] {F : Hp} {vs : List (κ × V)} {kvs : List (κ × Sd)} (h : KvA F vs kvs) (k : κ) : KvA F (dropK vs k) (dropA kvs k) := by
  unfold dropK dropA
  induction h with
  | nil => exact .nil
  | @cons p q l1 l2 r t ih =>
    rw [List.filter_cons, List.filter_cons, r.1]
    split
    · exact .cons r ih
    · exact ih
theorem KvA.length {κ : Type} {F : Hp} {vs : List (κ × V)} {kvs : List (κ × Sd)} (h : KvA F vs kvs) : vs.length = kvs.length := Paired.length h
/-- a key told by data -/
def keyD : Key → PyData
  | .inl i => .int i
  | .inr x => .str x
theorem Rep.key {F : Hp} {v : V} {k : Key} (h : Rep F v (keyD k)) : v = kV k := by cases k <;> cases h <;> rfl
theorem RepA.keys {F : Hp} : ∀ {k : List Key} {vs : List V}, RepA F vs (k.map keyD) → vs = k.map kV
  | [], _, h => by cases h; rfl
  | x :: k, _, h => by
    cases h with
    | cons h r => rw [Rep.key h, RepA.keys r]; rfl
theorem evN_dnewK : EvN B Δ C tDNewK (.dk []) := fun σ H F hs Q q => q.made hs ⟨[], rfl, .nil⟩
theorem evN_dnewT : EvN B Δ C tDNewT (.dt []) := fun σ H F hs Q q => q.made hs ⟨[], rfl, .nil⟩
/-- what the dict in a cell holds -/
theorem cell_dk {k : Nat} {l : Addr} {kvs : List (Key × Sd)} (hs : St B Δ C σ H F) (hc : C[k]? = some (l, .dk kvs)) : ∃ vs, H l = some (.dK vs) ∧ KvA F vs kvs := by
  obtain ⟨_, o, ho, vs, rfl, r⟩ := hs.cell hc; exact ⟨vs, ho, r⟩
theorem cell_dt {k : Nat} {l : Addr} {kvs : List (List Key × Sd)} (hs : St B Δ C σ H F) (hc : C[k]? = some (l, .dt kvs)) : ∃ vs, H l = some (.dT vs) ∧ KvA F vs kvs := by
  obtain ⟨_, o, ho, vs, rfl, r⟩ := hs.cell hc; exact ⟨vs, ho, r⟩
theorem KvA.isSome {κ : Type} [DecidableEq κ] {F : Hp} {vs : List (κ × V)} {kvs : List (κ × Sd)} (h : KvA F vs kvs) (k : κ) : (valV vs k).isSome = (lookA kvs k).isSome := by
  rcases h.look k with ⟨a, b⟩ | ⟨v, s, a, b, _⟩ <;> rw [a, b] <;> rfl
theorem KvA.of_look {κ : Type} [DecidableEq κ] {F : Hp} {vs : List (κ × V)} {kvs : List (κ × Sd)} (h : KvA F vs kvs) {k : κ} {s : Sd} (e : lookA kvs k = some s) : ∃ v, valV vs k = some v ∧ SlV F v s := by
  rcases h.look k with ⟨a, b⟩ | ⟨v, s', a, b, w⟩
  · rw [b] at e; cases e
  · rw [b] at e; cases e; exact ⟨v, a, w⟩
/-- y in d, y not in d; d a cell -/
theorem ev_dinK {k : Nat} {l : Addr} {kvs : List (Key × Sd)} {x : Key} (hc : C[k]? = some (l, .dk kvs)) (hy : Ev B Δ C ta (.d (keyD x))) (hd : Ev B Δ C tb (.v (.ref l))) : Ev B Δ C (tDIn ta tb) (.d (.bool (lookA kvs x).isSome)) := fun σ H F hs Q q =>
  hy σ H F hs _ fun y F1 H1 h1 e1 e1' w1 => hd σ H1 F1 h1 _ fun z F2 H2 h2 e2 e2' w2 => by
    cases w2
    obtain ⟨vs, ho, r⟩ := cell_dk h2 hc
    refine ⟨l, valV vs x, rfl, by rw [Rep.key w1]; exact DGet.k ho, ?_⟩
    rw [r.isSome]; exact q _ F2 H2 h2 (e1.trans e2) (e1'.trans e2') (.bl _)
theorem ev_dniK {k : Nat} {l : Addr} {kvs : List (Key × Sd)} {x : Key} (hc : C[k]? = some (l, .dk kvs)) (hy : Ev B Δ C ta (.d (keyD x))) (hd : Ev B Δ C tb (.v (.ref l))) : Ev B Δ C (tDNotIn ta tb) (.d (.bool (!(lookA kvs x).isSome))) := fun σ H F hs Q q =>
  hy σ H F hs _ fun y F1 H1 h1 e1 e1' w1 => hd σ H1 F1 h1 _ fun z F2 H2 h2 e2 e2' w2 => by
    cases w2
    obtain ⟨vs, ho, r⟩ := cell_dk h2 hc
    refine ⟨l, valV vs x, rfl, by rw [Rep.key w1]; exact DGet.k ho, ?_⟩
    rw [r.isSome]; exact q _ F2 H2 h2 (e1.trans e2) (e1'.trans e2') (.bl _)
theorem ev_dinT {k : Nat} {l : Addr} {kvs : List (List Key × Sd)} {x : List Key} (hc : C[k]? = some (l, .dt kvs)) (hy : Ev B Δ C ta (.d (.tuple (x.map keyD)))) (hd : Ev B Δ C tb (.v (.ref l))) : Ev B Δ C (tDIn ta tb) (.d (.bool (lookA kvs x).isSome)) := fun σ H F hs Q q =>
  hy σ H F hs _ fun y F1 H1 h1 e1 e1' w1 => hd σ H1 F1 h1 _ fun z F2 H2 h2 e2 e2' w2 => by
    cases w2
    obtain ⟨b, xs, rfl, hb, rx⟩ := Rep.tup_inv w1
    rw [rx.keys] at hb
    obtain ⟨vs, ho, r⟩ := cell_dt h2 hc
    refine ⟨l, valV vs x, rfl, DGet.t ho (h2.fh _ _ (e2 _ _ hb)), ?_⟩
    rw [r.isSome]; exact q _ F2 H2 h2 (e1.trans e2) (e1'.trans e2') (.bl _)
theorem ev_dniT {k : Nat} {l : Addr} {kvs : List (List Key × Sd)} {x : List Key} (hc : C[k]? = some (l, .dt kvs)) (hy : Ev B Δ C ta (.d (.tuple (x.map keyD)))) (hd : Ev B Δ C tb (.v (.ref l))) : Ev B Δ C (tDNotIn ta tb) (.d (.bool (!(lookA kvs x).isSome))) := fun σ H F hs Q q =>
  hy σ H F hs _ fun y F1 H1 h1 e1 e1' w1 => hd σ H1 F1 h1 _ fun z F2 H2 h2 e2 e2' w2 => by
    cases w2
    obtain ⟨b, xs, rfl, hb, rx⟩ := Rep.tup_inv w1
    rw [rx.keys] at hb
    obtain ⟨vs, ho, r⟩ := cell_dt h2 hc
    refine ⟨l, valV vs x, rfl, DGet.t ho (h2.fh _ _ (e2 _ _ hb)), ?_⟩
    rw [r.isSome]; exact q _ F2 H2 h2 (e1.trans e2) (e1'.trans e2') (.bl _)
/-- d[y] -/
theorem ev_dgetK {k : Nat} {l : Addr} {kvs : List (Key × Sd)} {x : Key} (hc : C[k]? = some (l, .dk kvs)) (hd : Ev B Δ C tb (.v (.ref l))) (hy : Ev B Δ C ta (.d (keyD x))) (hv : lookA kvs x = some s) : Ev B Δ C (tDGet tb ta) s := fun σ H F hs Q q =>
  hd σ H F hs _ fun z F1 H1 h1 e1 e1' w1 => hy σ H1 F1 h1 _ fun y F2 H2 h2 e2 e2' w2 => by
    cases w1
    obtain ⟨vs, ho, r⟩ := cell_dk h2 hc
    obtain ⟨v, hv', w⟩ := r.of_look hv
    exact ⟨l, v, rfl, by rw [Rep.key w2, ← hv']; exact DGet.k ho, q _ F2 H2 h2 (e1.trans e2) (e1'.trans e2') w⟩
theorem ev_dgetT {k : Nat} {l : Addr} {kvs : List (List Key × Sd)} {x : List Key} (hc : C[k]? = some (l, .dt kvs)) (hd : Ev B Δ C tb (.v (.ref l))) (hy : Ev B Δ C ta (.d (.tuple (x.map keyD)))) (hv : lookA kvs x = some s) : Ev B Δ C (tDGet tb ta) s := fun σ H F hs Q q =>
  hd σ H F hs _ fun z F1 H1 h1 e1 e1' w1 => hy σ H1 F1 h1 _ fun y F2 H2 h2 e2 e2' w2 => by
    cases w1
    obtain ⟨b, xs, rfl, hb, rx⟩ := Rep.tup_inv w2
    rw [rx.keys] at hb
    obtain ⟨vs, ho, r⟩ := cell_dt h2 hc
    obtain ⟨v, hv', w⟩ := r.of_look hv
    exact ⟨l, v, rfl, by rw [← hv']; exact DGet.t ho (h2.fh _ _ hb), q _ F2 H2 h2 (e1.trans e2) (e1'.trans e2') w⟩
/-- d[y] = e -/
theorem s_dputK {k : Nat} {l : Addr} {kvs : List (Key × Sd)} {x : Key} (hc : C[k]? = some (l, .dk kvs)) (e : Ev B Δ C te s) (hd : Ev B Δ C tb (.v (.ref l))) (hy : Ev B Δ C ta (.d (keyD x))) (kk : Nx B Δ (C.set k (l, .dk (putA kvs x s))) D.nx) (hz : kvs.length < 100000 := by omega) : WP B Δ C (sDPut tb ta te) D := fun σ H ⟨F, hs⟩ =>
  e σ H F hs _ fun v F1 H1 h1 e1 e1' w1 => hd σ H1 F1 h1 _ fun z F2 H2 h2 e2 e2' w2 => hy σ H2 F2 h2 _ fun y F3 H3 h3 e3 e3' w3 => by
    cases w2
    obtain ⟨vs, ho, r⟩ := cell_dk h3 hc
    exact ⟨l, _, rfl, by rw [Rep.key w3]; exact DPut.k ho (sz_lt (by rw [r.length]; exact hz)), kk _ _ ⟨F3, h3.put hc ⟨_, rfl, r.put x (w1.mono (e2.trans e3))⟩⟩⟩
theorem q_dputK {k : Nat} {l : Addr} {kvs : List (Key × Sd)} {x : Key} (hc : C[k]? = some (l, .dk kvs)) (e : Ev B Δ C te s) (hd : Ev B Δ C tb (.v (.ref l))) (hy : Ev B Δ C ta (.d (keyD x))) (kk : WP B Δ (C.set k (l, .dk (putA kvs x s))) tz D) (hz : kvs.length < 100000 := by omega) : WP B Δ C (tSeq (sDPut tb ta te) tz) D := s_dputK (D := { D with nx := tz D }) hc e hd hy kk hz
theorem s_dputT {k : Nat} {l : Addr} {kvs : List (List Key × Sd)} {x : List Key} (hc : C[k]? = some (l, .dt kvs)) (e : Ev B Δ C te s) (hd : Ev B Δ C tb (.v (.ref l))) (hy : Ev B Δ C ta (.d (.tuple (x.map keyD)))) (kk : Nx B Δ (C.set k (l, .dt (putA kvs x s))) D.nx) (hz : kvs.length < 100000 := by omega) : WP B Δ C (sDPut tb ta te) D := fun σ H ⟨F, hs⟩ =>
  e σ H F hs _ fun v F1 H1 h1 e1 e1' w1 => hd σ H1 F1 h1 _ fun z F2 H2 h2 e2 e2' w2 => hy σ H2 F2 h2 _ fun y F3 H3 h3 e3 e3' w3 => by
    cases w2
    obtain ⟨b, xs, rfl, hb, rx⟩ := Rep.tup_inv w3
    rw [rx.keys] at hb
    obtain ⟨vs, ho, r⟩ := cell_dt h3 hc
    exact ⟨l, _, rfl, DPut.t ho (h3.fh _ _ hb) (sz_lt (by rw [r.length]; exact hz)), kk _ _ ⟨F3, h3.put hc ⟨_, rfl, r.put x (w1.mono (e2.trans e3))⟩⟩⟩
theorem q_dputT {k : Nat} {l : Addr} {kvs : List (List Key × Sd)} {x : List Key} (hc : C[k]? = some (l, .dt kvs)) (e : Ev B Δ C te s) (hd : Ev B Δ C tb (.v (.ref l))) (hy : Ev B Δ C ta (.d (.tuple (x.map keyD)))) (kk : WP B Δ (C.set k (l, .dt (putA kvs x s))) tz D) (hz : kvs.length < 100000 := by omega) : WP B Δ C (tSeq (sDPut tb ta te) tz) D := s_dputT (D := { D with nx := tz D }) hc e hd hy kk hz
/-- a dict that is let go: known by its keys and what they hold -/
def DkM (kvs : List (Key × Sd)) : Mono := ⟨fun F v => ∃ a vs, v = .ref a ∧ F a = some (.dK vs) ∧ KvA F vs kvs, fun F F' v e h => by obtain ⟨a, vs, h1, h2, h3⟩ := h; exact ⟨a, vs, h1, e _ _ h2, KvA.mono e h3⟩⟩
theorem ev_dk {kvs : List (Key × Sd)} (h : EvN B Δ C te (.dk kvs)) : Ev B Δ C te (.p (DkM kvs)) := fun σ H F hs Q q => h σ H F hs Q fun p F' H' h' e1 e2 hp => by
  obtain ⟨o, h1, h2, h3, h4⟩ := h'.frz (k := 0) rfl (h'.free' hs hp)
  obtain ⟨vs, rfl, r⟩ := h2
  exact q _ _ _ h4 (e1.trans h3) e2 ⟨p, vs, rfl, upd_same, KvA.mono h3 r⟩
/-- a dict of the caller's, only read: its keys -/
def HasK (H : Hp) (v : V) (b : Key → Bool) : Prop := ∃ a vs, v = .ref a ∧ H a = some (.dK vs) ∧ ∀ x, (valV vs x).isSome = b x
theorem ev_dinA {a : Addr} {vs : List (Key × V)} {x : Key} (hB : B.H a = some (.dK vs)) (hC : a ∉ C.map (·.1)) (hy : Ev B Δ C ta (.d (keyD x))) (hd : Ev B Δ C tb (.v (.ref a))) : Ev B Δ C (tDIn ta tb) (.d (.bool (valV vs x).isSome)) := fun σ H F hs Q q =>
  hy σ H F hs _ fun y F1 H1 h1 e1 e1' w1 => hd σ H1 F1 h1 _ fun z F2 H2 h2 e2 e2' w2 => by
    cases w2
    exact ⟨a, valV vs x, rfl, by rw [Rep.key w1]; exact DGet.k (h2.hh _ _ hC hB), q _ F2 H2 h2 (e1.trans e2) (e1'.trans e2') (.bl _)⟩
theorem ev_dniA {a : Addr} {vs : List (Key × V)} {x : Key} (hB : B.H a = some (.dK vs)) (hC : a ∉ C.map (·.1)) (hy : Ev B Δ C ta (.d (keyD x))) (hd : Ev B Δ C tb (.v (.ref a))) : Ev B Δ C (tDNotIn ta tb) (.d (.bool (!(valV vs x).isSome))) := fun σ H F hs Q q =>
  hy σ H F hs _ fun y F1 H1 h1 e1 e1' w1 => hd σ H1 F1 h1 _ fun z F2 H2 h2 e2 e2' w2 => by
    cases w2
    exact ⟨a, valV vs x, rfl, by rw [Rep.key w1]; exact DGet.k (h2.hh _ _ hC hB), q _ F2 H2 h2 (e1.trans e2) (e1'.trans e2') (.bl _)⟩

/-- a point among points -/
theorem any_nats (i : Nat) (ns : List Nat) : (decide ((i : Int) ∈ ns.map (fun n : Nat => (n : Int)))) = decide (i ∈ ns) := by
  have this : (i : Int) ∈ ns.map (fun n : Nat => (n : Int)) ↔ i ∈ ns := by
    constructor
    · intro h
      obtain ⟨a, ha, e⟩ := List.mem_map.mp h
      have e' : a = i := Int.ofNat.inj e
      exact e' ▸ ha
    · intro h
      exact List.mem_map.mpr ⟨i, h, rfl⟩
  by_cases h : i ∈ ns
  · rw [decide_eq_true h, decide_eq_true (this.mpr h)]
  · rw [decide_eq_false h, decide_eq_false (fun z => h (this.mp z))]
theorem rv_inCN {neg : Bool} {k : Nat} {l : Addr} {i : Nat} {ns : List Nat} (hc : C[k]? = some (l, .lst (ns.map fun n : Nat => Sd.d (.int (n : Int))))) : RV B Δ C (rIn K neg) (.d (.int (i : Int))) (.v (.ref l)) (.d (.bool (if neg then !decide (i ∈ ns) else decide (i ∈ ns)))) := by
  have h := rv_inC (B := B) (Δ := Δ) (K := K) (neg := neg) (k := k) (l := l) (i := (i : Int)) (ns := ns.map fun n : Nat => (n : Int)) (by rw [List.map_map]; exact hc)
  rw [any_nats] at h; exact h
theorem rv_inN {i : Nat} {ns : List Nat} : RV B Δ C (rIn K false) (.d (.int (i : Int))) (.d (.list (ns.map fun n : Nat => .int (n : Int)))) (.d (.bool (decide (i ∈ ns)))) := by
  have h := rv_inI (B := B) (Δ := Δ) (C := C) (K := K) (i := (i : Int)) (ns := ns.map fun n : Nat => (n : Int))
  rw [any_nats, List.map_map] at h; exact h
theorem rv_niN {i : Nat} {ns : List Nat} : RV B Δ C (rIn K true) (.d (.int (i : Int))) (.d (.list (ns.map fun n : Nat => .int (n : Int)))) (.d (.bool (!decide (i ∈ ns)))) := by
  have h := rv_niI (B := B) (Δ := Δ) (C := C) (K := K) (i := (i : Int)) (ns := ns.map fun n : Nat => (n : Int))
  rw [any_nats, List.map_map] at h; exact h

/-! #### instances -/
theorem ev_dvI {i : Int} (h : Ev B Δ C te (.d (.int i))) : Ev B Δ C te (.v (.int i)) := fun σ H F hs Q q => h σ H F hs Q fun v F' H' a b c w => q v F' H' a b c (Rep.int_inv w)
theorem ev_vdI {i : Int} (h : Ev B Δ C te (.v (.int i))) : Ev B Δ C te (.d (.int i)) := fun σ H F hs Q q => h σ H F hs Q fun v F' H' a b c w => by cases w; exact q _ F' H' a b c (.int i)
/-- o.f = e, o an instance in a cell -/
theorem s_fldC {k : Nat} {x DC dx : Addr} {fs : List (Str × V)} {f : Str} {w : V} (hc : C[k]? = some (x, .raw (.ins DC dx fs))) (e : Ev B Δ C te (.v w)) (ho : Ev B Δ C ta (.v (.ref x))) (cl : Cls K DC) (n : NoAttr K DC f) (hz : fs.length < 1000) (kk : Nx B Δ (C.set k (x, .raw (.ins DC dx (putF f w fs)))) D.nx) : WP B Δ C (sFld K ta te f) D := fun σ H ⟨F, hs⟩ =>
  e σ H F hs _ fun v F1 H1 h1 e1 e1' w1 => ho σ H1 F1 h1 _ fun y F2 H2 h2 e2 e2' w2 => by
    cases w1; cases w2
    obtain ⟨_, o, hx, rfl, _⟩ := h2.cell hc
    exact ⟨x, DC, dx, fs, rfl, hx, cl, n, hz, kk _ _ ⟨F2, h2.put hc ⟨rfl, fun ys z => by cases z⟩⟩⟩
/-- .. a new cell stored -/
theorem s_fldN {k : Nat} {x DC dx : Addr} {fs : List (Str × V)} {f : Str} {c : Cd} (hc : C[k]? = some (x, .raw (.ins DC dx fs))) (e : EvN B Δ C te c) (ho : ∀ C', Ev B Δ C' ta (.v (.ref x))) (cl : Cls K DC) (n : NoAttr K DC f) (hz : fs.length < 1000) (kk : ∀ l, B.H l = none → Nx B Δ ((l, c) :: C.set k (x, .raw (.ins DC dx (putF f (.ref l) fs)))) D.nx) : WP B Δ C (sFld K ta te f) D := fun σ H ⟨F, hs⟩ =>
  e σ H F hs _ fun l F1 H1 h1 e1 e1' w1 => ho _ σ H1 F1 h1 _ fun y F2 H2 h2 e2 e2' w2 => by
    cases w2
    have hc' : ((l, c) :: C)[k + 1]? = some (x, .raw (.ins DC dx fs)) := hc
    obtain ⟨_, o, hx, rfl, _⟩ := h2.cell hc'
    exact ⟨x, DC, dx, fs, rfl, hx, cl, n, hz, kk l (hs.free w1) _ _ ⟨F2, h2.put hc' ⟨rfl, fun ys z => by cases z⟩⟩⟩
theorem q_fldC {k : Nat} {x DC dx : Addr} {fs : List (Str × V)} {f : Str} {w : V} (hc : C[k]? = some (x, .raw (.ins DC dx fs))) (e : Ev B Δ C te (.v w)) (ho : Ev B Δ C ta (.v (.ref x))) (cl : Cls K DC) (n : NoAttr K DC f) (hz : fs.length < 1000) (kk : WP B Δ (C.set k (x, .raw (.ins DC dx (putF f w fs)))) tz D) : WP B Δ C (tSeq (sFld K ta te f) tz) D := s_fldC (D := { D with nx := tz D }) hc e ho cl n hz kk
theorem q_fldN {k : Nat} {x DC dx : Addr} {fs : List (Str × V)} {f : Str} {c : Cd} (hc : C[k]? = some (x, .raw (.ins DC dx fs))) (e : EvN B Δ C te c) (ho : ∀ C', Ev B Δ C' ta (.v (.ref x))) (cl : Cls K DC) (n : NoAttr K DC f) (hz : fs.length < 1000) (kk : ∀ l, B.H l = none → WP B Δ ((l, c) :: C.set k (x, .raw (.ins DC dx (putF f (.ref l) fs)))) tz D) : WP B Δ C (tSeq (sFld K ta te f) tz) D := s_fldN (D := { D with nx := tz D }) hc e ho cl n hz kk
/-- a field of an instance of the caller's -/
theorem ev_fldA {a DC dx : Addr} {fs : List (Str × V)} {f : Str} {x : V} (hB : B.H a = some (.ins DC dx fs)) (hC : a ∉ C.map (·.1)) (ha : Ev B Δ C ta (.v (.ref a))) (c : Cls K DC) (n : NoAttr K DC f) (e : fs.lookup f = some x) : Ev B Δ C (tFld K ta f) (.v x) := fun σ H F hs Q q =>
  ha σ H F hs _ fun v F' H' h1 e1 e2 w => by
    cases w
    exact ⟨a, DC, dx, fs, x, rfl, h1.hh _ _ hC hB, c, n, e, q x F' H' h1 e1 e2 rfl⟩
/-- a method of an instance in a cell -/
theorem ev_methC {k : Nat} {x DC dx : Addr} {fs : List (Str × V)} {nm : Str} {R : Hp → Hp → List Sd → Sd → Prop} {E : XK} {tb : TA} {ss : List Sd} (hc : C[k]? = some (x, .raw (.ins DC dx fs))) (ha : Ev B Δ C ta (.v (.ref x))) (hi : fs.lookup nm = none) (h : EvA B Δ C tb ss)
    (hR : ∀ σ H F, St B Δ C σ H F → R F H (.v (.ref x) :: ss) s) : Ev B Δ C (tMeth DC nm (SpD R) [] E ta tb) s := fun σ H F hs Q q =>
  ha σ H F hs _ fun v F1 H1 h1 e1 e1' w1 => by
    cases w1
    obtain ⟨_, o, hx, rfl, _⟩ := h1.cell hc
    refine ⟨x, dx, fs, rfl, hx, hi, ?_⟩
    exact h σ H1 F1 h1 _ fun vs F2 H2 h4 e2 e2' w2 => ⟨F2, .v (.ref x) :: ss, s, h4.fh, by rw [List.append_nil]; exact .cons rfl w2, hR σ H2 F2 h4, fun v F' H' x w => q v F' H' (h4.by x) ((e1.trans e2).trans x.ff) ((e1'.trans e2').trans x.hh) w⟩
/-- .. of an instance of the caller's -/
theorem ev_methA {a DC dx : Addr} {fs : List (Str × V)} {nm : Str} {R : Hp → Hp → List Sd → Sd → Prop} {E : XK} {tb : TA} {ss : List Sd} (hB : B.H a = some (.ins DC dx fs)) (hC : a ∉ C.map (·.1)) (ha : Ev B Δ C ta (.v (.ref a))) (hi : fs.lookup nm = none) (h : EvA B Δ C tb ss)
    (hR : ∀ σ H F, St B Δ C σ H F → R F H (.v (.ref a) :: ss) s) : Ev B Δ C (tMeth DC nm (SpD R) [] E ta tb) s := fun σ H F hs Q q =>
  ha σ H F hs _ fun v F1 H1 h1 e1 e1' w1 => by
    cases w1
    refine ⟨a, dx, fs, rfl, h1.hh _ _ hC hB, hi, ?_⟩
    exact h σ H1 F1 h1 _ fun vs F2 H2 h4 e2 e2' w2 => ⟨F2, .v (.ref a) :: ss, s, h4.fh, by rw [List.append_nil]; exact .cons rfl w2, hR σ H2 F2 h4, fun v F' H' x w => q v F' H' (h4.by x) ((e1.trans e2).trans x.ff) ((e1'.trans e2').trans x.hh) w⟩
/-- C(..): the promise of __init__ at a new instance: everything else stands, m tells of the instance behind it -/
def SpI (DC : Addr) (R : Hp → Hp → List Sd → Mono → Prop) : Sp := fun vs H Q _ => ∃ F Hm x dx ws ss m, vs = .ref x :: ws ∧ Ex F H ∧ Ex F Hm ∧ Hm x = none ∧ (∀ a, a ≠ x → Hm a = H a) ∧ H x = some (.ins DC dx []) ∧ SlA F ws ss ∧ R F Hm ss m ∧ ∀ F' H', Ext ⟨F, Hm, []⟩ F' H' → m.φ F' (.ref x) → Q .non H'
theorem ev_make {DC : Addr} {R : Hp → Hp → List Sd → Mono → Prop} {E : XK} {tr : TA} {ss : List Sd} {m : Mono} (h : EvA B Δ C tr ss) (hR : ∀ σ H F Hm, St B Δ C σ H F → Ex H Hm → R F Hm ss m) : Ev B Δ C (tMake DC (SpI DC R) [] E tr) (.p m) := fun σ H F hs Q q =>
  h σ H F hs _ fun vs F1 H1 h1 e1 e1' w1 => fun x dx hx hdx ne => by
    have hxm : upd H1 dx (.own x) x = none := by rw [upd_ne (Ne.symm ne)]; exact hx
    have f1 : Ex F1 (upd H1 dx (.own x)) := h1.fh.trans (Ex.new hdx)
    refine ⟨F1, upd H1 dx (.own x), x, dx, vs, ss, m, by rw [List.append_nil], f1.trans (Ex.new hxm), f1, hxm, fun a ha => by rw [upd_ne ha], upd_same, w1, hR σ H1 F1 _ h1 (Ex.new hdx), fun F' H' xt w => ⟨rfl, ?_⟩⟩
    have xt' : Ext ⟨F1, H1, []⟩ F' H' := ⟨xt.ff, xt.fh, (Ex.new hdx).trans xt.hh, fun a n => by
      rcases xt.gr a n with z | z | ⟨ys, z⟩
      · exact .inl z
      · refine .inr (.inl ?_)
        have z : upd H1 dx (.own x) a = none := z
        by_cases ha : a = dx
        · subst ha; exact hdx
        · rw [upd_ne ha] at z; exact z
      · have z : upd H1 dx (.own x) a = some (.tup ys) := z
        by_cases ha : a = dx
        · subst ha; rw [upd_same] at z; cases z
        · rw [upd_ne ha] at z; exact .inr (.inr ⟨ys, z⟩)⟩
    exact q _ F' H' (h1.by xt') (e1.trans xt'.ff) (e1'.trans xt'.hh) w
/-- an instance's own def begins -/
theorem St.startI {N : List Str} {H F Hm : Hp} {x DC dx : Addr} {ws : List V} {ss : List Sd} (hf : Ex F H) (hfm : Ex F Hm) (hx : Hm x = none) (hm : ∀ a, a ≠ x → Hm a = H a) (ho : H x = some (.ins DC dx [])) (h : SlA F ws ss) :
    St ⟨F, Hm, []⟩ ((.v (.ref x) :: ss) ++ List.replicate (N.length - (Sd.v (.ref x) :: ss).length) .no) [(x, .raw (.ins DC dx []))] (L2.start N (.ref x :: ws)) H F := by
  have h1 : SlA F (V.ref x :: ws) (.v (.ref x) :: ss) := .cons rfl h
  have h0 := St.start (N := N) hf h1
  have fx : F x = none := by
    cases e : F x with
    | none => rfl
    | some o => rw [hfm x o e] at hx; cases hx
  refine ⟨Ex.refl F, hf, fun a o n e => ?_, fun a n => .inl n, h0.sl, fun c hc => ?_, by simp, fun c hc => by cases hc⟩
  · have na : a ≠ x := fun z => n (by simp [z])
    rw [← hm a na]; exact e
  · have hc : c = (x, .raw (.ins DC dx [])) := by simpa using hc
    subst hc; exact ⟨fx, _, ho, rfl, fun ys z => by cases z⟩
end
/-! ### the readings' own names -/
abbrev xLen (K : PySem.W.Frag) : List V → Hp → VK → Prop := fun xs H Q => ∃ p ys, xs = [.ref p] ∧ (SqL K H p ys ∨ SqT K H p ys) ∧ Q (.int ys.length) H
abbrev xListOf (K : PySem.W.Frag) : List V → Hp → VK → Prop := fun xs H Q => ∃ p ys, xs = [.ref p] ∧ (SqL K H p ys ∨ SqT K H p ys) ∧ ∀ l, H l = none → Q (.ref l) (upd H l (.lst ys))
abbrev xMax2 : List V → Hp → VK → Prop := fun xs H Q => ∃ i j, xs = [.int i, .int j] ∧ Q (.int (if j > i then j else i)) H
abbrev xMin2 : List V → Hp → VK → Prop := fun xs H Q => ∃ i j, xs = [.int i, .int j] ∧ Q (.int (if j < i then j else i)) H
abbrev xIsN : R2 := fun x y H Q => y = .non ∧ Q (.bl (decide (x = .non))) H
abbrev xNotN : R2 := fun x y H Q => y = .non ∧ Q (.bl (!decide (x = .non))) H
abbrev xIntOf : List V → Hp → VK → Prop := fun xs H Q => (∃ i, xs = [.int i] ∧ Q (.int i) H) ∨ ∃ k, xs = [.bl k] ∧ Q (.int (if k then 1 else 0)) H
abbrev xAddStr : R2 := fun x y H Q => ∃ i j, x = .str i ∧ y = .str j ∧ i.length + j.length ≤ sizeLine ∧ Q (.str (i ++ j)) H
end FD

set_option Elab.async false
set_option linter.all false
set_option maxRecDepth 100000
set_option maxHeartbeats 1000000
set_option autoImplicit false
/-! rules that the layer lacks -/
namespace FX
open PySem PySem.Spec PyProof.Rows
open L2 hiding St
theorem hr65 {k : Nat} {A : Around} (hr : Room k A) : A.units + 65 < cLine := by have := hr.un; omega
theorem lookup_relab {f : Str → NameKind → NameKind} : ∀ {names : List (Str × NameKind)} {x : Str} {k : NameKind}, names.lookup x = some k → (names.map fun (n, k) => (n, f n k)).lookup x = some (f x k)
  | [], _, _, h => by simp at h
  | (n, j) :: r, x, k, h => by
    show List.lookup x ((n, f n j) :: r.map _) = _
    by_cases e : x = n
    · subst e
      have h1 : j = k := by simpa [List.lookup] using h
      subst h1
      simp [List.lookup]
    · have e' : (x == n) = false := by simpa using e
      have h1 : r.lookup x = some k := by simpa [List.lookup, e'] using h
      simp only [List.lookup, e']
      exact lookup_relab h1
/-- a comprehension within a comprehension: its names -/
theorem blkOk_in {N : List Str} {sc0 scope : Scope} {own : List (Str × Nat)} {env : Env} (h : blkC N sc0 scope own = true) : BlkOk N (relabel sc0 env) scope own := by
  have b := blkOk_by h
  have e : (relabel sc0 env).names = sc0.names.map fun (n, k) => (n, if (k == .free && env.scope.kind == .function && env.kindOf n == some .cell) then NameKind.cell else k) := by
    unfold relabel
    refine List.map_congr_left fun p _ => ?_
    obtain ⟨n, k⟩ := p
    show (if _ then (n, NameKind.cell) else (n, k)) = (n, if _ then NameKind.cell else k)
    split <;> rfl
  refine ⟨b.kind, b.uniq, b.ix, fun y hy ey => ?_, b.own⟩
  rw [e]
  rcases b.free y hy ey with h | h
  · exact .inl (lookup_relab (f := fun n k => if (k == .free && env.scope.kind == .function && env.kindOf n == some .cell) then NameKind.cell else k) h)
  · have h2 := lookup_relab (f := fun n k => if (k == .free && env.scope.kind == .function && env.kindOf n == some .cell) then NameKind.cell else k) h
    cases hh : (((NameKind.free == .free) && env.scope.kind == .function && env.kindOf y.1 == some .cell) : Bool)
    · exact .inr (h2.trans (by rw [hh]; rfl))
    · exact .inl (h2.trans (by rw [hh]; rfl))
section
variable {X : Cx}
def rMinT2 (K : PySem.W.Frag) : List V → Hp → VK → Prop := fun vs H Q => ∃ (p : Addr) (i j : Int), vs = [V.ref p] ∧ SqT K H p [.int i, .int j] ∧ Q (.int (min i j)) H
def rMaxT2 (K : PySem.W.Frag) : List V → Hp → VK → Prop := fun vs H Q => ∃ (p : Addr) (i j : Int), vs = [V.ref p] ∧ SqT K H p [.int i, .int j] ∧ Q (.int (max i j)) H
theorem reads2 {pins : List (Addr × Obj)} {σ : L2.St} {H : Hp} {s : Shared} {its : List Value} {i j : Int} (I : Inv X pins σ H s) (rv : Vals [V.int i, V.int j] its) : ∃ as, ReadsAll s.heap its [.int i, .int j] as := Dp.readsAll I [.int i, .int j] _ _ (.cons (.int i) (.cons (.int j) .nil)) rv
theorem alike2 (i j : Int) : PySem.W.AlikeAll [.int i, .int j] := by
  refine ⟨fun x hx y hy => ?_, fun x hx => ?_⟩
  · simp at hx hy
    rcases hx with rfl | rfl <;> rcases hy with rfl | rfl <;> rfl
  · simp at hx
    rcases hx with rfl | rfl <;> intro h <;> cases h
theorem reads_int {h : Heap} {v : Value} {i : Int} {as : List Addr} (r : Reads h v (.int i) as) : RelV (.int i) v := by
  cases r with | int i t => exact ⟨_, rfl⟩
theorem call_minT2 (hc : X.calm = true) (hu : X.A.units + 64 < cLine) : CallR X (.builtin "min") (rMinT2 X.K) := by
  intro pins s σ H vs us Q I r h
  obtain ⟨p, i, j, rfl, hs, q⟩ := h
  obtain ⟨its, rv, hT, _⟩ := I.tuple hs
  rw [Vals.ref1 r]
  obtain ⟨as, hr⟩ := reads2 I rv
  refine PySem.W.min_tuple_data (I.ok.hd hc) hT (x := .int i) (xs := [.int j]) (by simpa using hr) (alike2 i j) (by simp [PyData.depthAll, PyData.depth]; omega) fun k v h' tk bs hv hrd hk => ⟨.int (min i j), H, I.kept hk, ?_, q⟩
  have e := PySem.W.minD_ints i [j]
  rw [show ([PyData.int j] : List PyData) = [j].map PyData.int from rfl, e] at hrd
  exact reads_int hrd
theorem call_maxT2 (hc : X.calm = true) (hu : X.A.units + 64 < cLine) : CallR X (.builtin "max") (rMaxT2 X.K) := by
  intro pins s σ H vs us Q I r h
  obtain ⟨p, i, j, rfl, hs, q⟩ := h
  obtain ⟨its, rv, hT, _⟩ := I.tuple hs
  rw [Vals.ref1 r]
  obtain ⟨as, hr⟩ := reads2 I rv
  refine PySem.W.max_tuple_data (I.ok.hd hc) hT (x := .int i) (xs := [.int j]) (by simpa using hr) (alike2 i j) (by simp [PyData.depthAll, PyData.depth]; omega) fun k v h' tk bs hv hrd hk => ⟨.int (max i j), H, I.kept hk, ?_, q⟩
  have e := PySem.W.maxD_ints i [j]
  rw [show ([PyData.int j] : List PyData) = [j].map PyData.int from rfl, e] at hrd
  exact reads_int hrd
end

section
open FD
variable {B : Base} {Δ : List Sd} {C : Cs} {K : PySem.W.Frag}
theorem rc_minT {i j : Int} : RC B Δ C (rMinT2 K) [.d (.tuple [.int i, .int j])] (.d (.int (min i j))) := fun σ H F hs xs w Q q => by
  cases w with | cons w w' =>
    cases w'; obtain ⟨a, xs, rfl, e, r⟩ := Rep.tup_inv w
    cases r with | cons r1 r => cases r with | cons r2 r =>
      cases r; cases r1; cases r2
      exact ⟨a, i, j, rfl, SqT.of (hs.fh _ _ e), q.now hs (.int _)⟩
theorem rc_maxT {i j : Int} : RC B Δ C (rMaxT2 K) [.d (.tuple [.int i, .int j])] (.d (.int (max i j))) := fun σ H F hs xs w Q q => by
  cases w with | cons w w' =>
    cases w'; obtain ⟨a, xs, rfl, e, r⟩ := Rep.tup_inv w
    cases r with | cons r1 r => cases r with | cons r2 r =>
      cases r; cases r1; cases r2
      exact ⟨a, i, j, rfl, SqT.of (hs.fh _ _ e), q.now hs (.int _)⟩
/-! ### sorted of pairs -/
abbrev PI2 := Int × Int
abbrev dP (p : PI2) : PyData := .tuple [.int p.1, .int p.2]
def leP (p q : PI2) : Bool := decide (p.1 < q.1 ∨ (p.1 = q.1 ∧ p.2 ≤ q.2))
def sortP (ps : List PI2) : List PI2 := ps.mergeSort leP
theorem leP_trans (a b c : PI2) (h1 : leP a b = true) (h2 : leP b c = true) : leP a c = true := by
  unfold leP at *; simp only [decide_eq_true_eq] at *; omega
theorem leP_total (a b : PI2) : (leP a b || leP b a) = true := by
  unfold leP
  simp only [Bool.or_eq_true, decide_eq_true_eq]; omega
theorem leP_anti {a b : PI2} (h1 : leP a b = true) (h2 : leP b a = true) : a = b := by
  unfold leP at *; simp only [decide_eq_true_eq] at *
  obtain ⟨a1, a2⟩ := a; obtain ⟨b1, b2⟩ := b
  simp only [Prod.mk.injEq] at *; omega
theorem sortP_perm (ps : List PI2) : (sortP ps).Perm ps := List.mergeSort_perm ps _
theorem sortP_pw (ps : List PI2) : (sortP ps).Pairwise fun a b => leP a b = true := List.pairwise_mergeSort leP_trans leP_total ps
theorem sortP_uniq {as bs : List PI2} (h : as.Perm bs) (h1 : as.Pairwise fun a b => leP a b = true) : as = sortP bs :=
  (h.trans (sortP_perm bs).symm).eq_of_pairwise (fun a b _ _ x y => leP_anti x y) h1 (sortP_pw bs)
/-- the pairs that a list of values tells, rearranged alike -/
theorem perm_rep {F : Hp} : ∀ {ys xs : List V}, ys.Perm xs → ∀ {ps : List PI2}, RepA F xs (ps.map dP) → ∃ qs : List PI2, qs.Perm ps ∧ RepA F ys (qs.map dP) := by
  intro ys xs h
  induction h with
  | nil => intro ps r; exact ⟨ps, .refl _, r⟩
  | @cons x l1 l2 h ih =>
    intro ps r
    cases ps with
    | nil => cases r
    | cons p ps =>
      cases r with | cons r1 r =>
        obtain ⟨qs, h1, h2⟩ := ih r
        exact ⟨p :: qs, h1.cons p, .cons r1 h2⟩
  | @swap x y l =>
    intro ps r
    cases ps with
    | nil => cases r
    | cons p ps => cases ps with
      | nil => cases r with | cons r1 r => cases r
      | cons p' ps =>
        cases r with | cons r1 r => cases r with | cons r2 r => exact ⟨p' :: p :: ps, .swap _ _ _, .cons r2 (.cons r1 r)⟩
  | trans h1 h2 ih1 ih2 =>
    intro ps r
    obtain ⟨qs, a, b⟩ := ih2 r
    obtain ⟨rs, c, d⟩ := ih1 b
    exact ⟨rs, c.trans a, d⟩
/-- the pair that stands at a value -/
noncomputable def pairAt (F : Hp) (v : V) : PI2 := by
  classical exact if h : ∃ p : PI2, Rep F v (dP p) then h.choose else (0, 0)
theorem rep_pair_inj {F : Hp} {v : V} {p q : PI2} (h1 : Rep F v (dP p)) (h2 : Rep F v (dP q)) : p = q := by
  obtain ⟨a, xs, rfl, e, r⟩ := Rep.tup_inv h1
  obtain ⟨a', xs', e1, e', r'⟩ := Rep.tup_inv h2
  cases e1
  rw [e] at e'; cases e'
  cases r with | cons r1 r => cases r with | cons r2 r =>
  cases r' with | cons r1' r' => cases r' with | cons r2' r' =>
  obtain ⟨p1, p2⟩ := p; obtain ⟨q1, q2⟩ := q
  have a1 := Rep.int_inv r1; have a2 := Rep.int_inv r2
  have b1 := Rep.int_inv r1'; have b2 := Rep.int_inv r2'
  rw [a1] at b1; rw [a2] at b2
  cases b1; cases b2; rfl
theorem pairAt_eq {F : Hp} {v : V} {p : PI2} (h : Rep F v (dP p)) : pairAt F v = p := by
  unfold pairAt
  have hh : ∃ p : PI2, Rep F v (dP p) := ⟨p, h⟩
  rw [dif_pos hh]
  exact rep_pair_inj hh.choose_spec h
theorem rcN_sortP {ps : List PI2} : RCN B Δ C (rSortedPO K) [.d (.list (ps.map dP))] (.lst ((sortP ps).map fun p => .d (dP p))) := fun σ H F hs xs w Q q => by
  cases w with | cons w w' =>
    cases w'; obtain ⟨a, xs, rfl, e, r⟩ := Rep.lst_inv w
    refine ⟨a, xs, pairAt F, rfl, SqL.of (hs.fh _ _ e), fun x hx => ?_, fun ys p h1 h2 hp => ?_⟩
    · obtain ⟨i, hi, rfl⟩ := List.getElem_of_mem hx
      obtain ⟨d, h3, h4⟩ := r.get (i := i) (v := xs[i]) (by simp [hi])
      rw [List.getElem?_map] at h3
      cases z : ps[i]? with
      | none => rw [z] at h3; cases h3
      | some pp =>
        rw [z] at h3
        have h3 : dP pp = d := Option.some.inj h3
        subst h3
        rw [pairAt_eq h4]
        obtain ⟨t, zs, e1, e2, r2⟩ := Rep.tup_inv h4
        cases r2 with | cons q1 r2 => cases r2 with | cons q2 r2 =>
          cases r2; cases q1; cases q2
          exact ⟨t, e1, hs.fh _ _ e2⟩
    · obtain ⟨qs, hq1, hq2⟩ := perm_rep h2.perm r
      have hsd : qs.Pairwise fun a b => leP a b = true := by
        have h1' : ys.Pairwise fun x y => ltP (pairAt F) y x = false := h1
        clear h1 q hp h2 hq1
        induction ys generalizing qs with
        | nil => cases qs with
          | nil => exact .nil
          | cons => cases hq2
        | cons y ys ih =>
          cases qs with
          | nil => cases hq2
          | cons b qs =>
            cases hq2 with | cons k1 k2 =>
            rw [List.pairwise_cons] at h1' ⊢
            refine ⟨fun c hc => ?_, ih qs k2 h1'.2⟩
            obtain ⟨i, hi, rfl⟩ := List.getElem_of_mem hc
            obtain ⟨v, hv1, hv2⟩ := k2.get' (i := i) (d := dP qs[i]) (by rw [List.getElem?_map, List.getElem?_eq_getElem hi]; rfl)
            have hh := h1'.1 v (List.mem_of_getElem? hv1)
            have hh : SrtO.lexB (pairAt F v) (pairAt F y) = false := hh
            rw [pairAt_eq hv2, pairAt_eq k1] at hh
            have := SrtO.lexB_no.mp hh
            unfold leP
            simp only [decide_eq_true_eq]; omega
      rw [← sortP_uniq hq1 hsd] at q
      refine q.made hs ⟨ys, rfl, ?_⟩ p hp
      have := hq2.sl
      rw [List.map_map] at this
      exact this
end
/-! ### a subscript of a list or of a dict; a dict of the caller's -/
def tAlt (t u : TE) : TE := fun σ H Q => t σ H Q ∨ u σ H Q
theorem pe_alt {X : Cx} {e : Expr} {t u : TE} (h1 : PE X e t) (h2 : PE X e u) : PE X e (tAlt t u) := ⟨fun pins s σ H Q I h => h.elim (h1.run pins s σ H Q I) (h2.run pins s σ H Q I)⟩
section
open FD
open Evl (Ex)
variable {B : Base} {Δ : List Sd} {C : Cs} {ta tb te : TE} {s : Sd}
theorem ev_altL (h : Ev B Δ C ta s) : Ev B Δ C (tAlt ta tb) s := fun σ H F hs Q q => .inl (h σ H F hs Q q)
theorem ev_altR (h : Ev B Δ C tb s) : Ev B Δ C (tAlt ta tb) s := fun σ H F hs Q q => .inr (h σ H F hs Q q)
/-- the dict at d reads so wherever the state is told so -/
def RdS (B : Base) (Δ : List Sd) (C : Cs) (d : Addr) (vs : List (Key × V)) : Prop := ∀ σ H F, FD.St B Δ C σ H F → Rd H d (.dK vs)
theorem rdS_base {d : Addr} {vs : List (Key × V)} (h : Rd B.H d (.dK vs)) (hC : d ∉ C.map (·.1)) : RdS B Δ C d vs := fun σ H F hs => by
  rcases h with h | ⟨o, h⟩
  · exact .inl (hs.hh _ _ hC h)
  · exact .inr ⟨o, hs.hh _ _ hC h⟩
theorem ev_dgetB {d : Addr} {vs : List (Key × V)} {kvs : List (Key × Sd)} {x : Key} (hR : RdS B Δ C d vs) (hK : KvA B.F vs kvs) (hd : Ev B Δ C tb (.v (.ref d))) (hy : Ev B Δ C ta (.d (keyD x))) (hv : lookA kvs x = some s) : Ev B Δ C (tDGet tb ta) s := fun σ H F hs Q q =>
  hd σ H F hs _ fun z F1 H1 h1 e1 e1' w1 => hy σ H1 F1 h1 _ fun y F2 H2 h2 e2 e2' w2 => by
    cases w1
    obtain ⟨v, hv', w⟩ := hK.of_look hv
    exact ⟨d, v, rfl, by rw [Rep.key w2, ← hv']; exact .inl ⟨vs, x, hR _ _ _ h2, rfl, rfl⟩, q _ F2 H2 h2 (e1.trans e2) (e1'.trans e2') (SlV.mono h2.ff w)⟩
theorem ev_dinB {d : Addr} {vs : List (Key × V)} {x : Key} (hR : RdS B Δ C d vs) (hy : Ev B Δ C ta (.d (keyD x))) (hd : Ev B Δ C tb (.v (.ref d))) : Ev B Δ C (tDIn ta tb) (.d (.bool (valV vs x).isSome)) := fun σ H F hs Q q =>
  hy σ H F hs _ fun y F1 H1 h1 e1 e1' w1 => hd σ H1 F1 h1 _ fun z F2 H2 h2 e2 e2' w2 => by
    cases w2
    exact ⟨d, valV vs x, rfl, by rw [Rep.key w1]; exact .inl ⟨vs, x, hR _ _ _ h2, rfl, rfl⟩, q _ F2 H2 h2 (e1.trans e2) (e1'.trans e2') (.bl _)⟩
theorem ev_dniB {d : Addr} {vs : List (Key × V)} {x : Key} (hR : RdS B Δ C d vs) (hy : Ev B Δ C ta (.d (keyD x))) (hd : Ev B Δ C tb (.v (.ref d))) : Ev B Δ C (tDNotIn ta tb) (.d (.bool (!(valV vs x).isSome))) := fun σ H F hs Q q =>
  hy σ H F hs _ fun y F1 H1 h1 e1 e1' w1 => hd σ H1 F1 h1 _ fun z F2 H2 h2 e2 e2' w2 => by
    cases w2
    exact ⟨d, valV vs x, rfl, by rw [Rep.key w1]; exact .inl ⟨vs, x, hR _ _ _ h2, rfl, rfl⟩, q _ F2 H2 h2 (e1.trans e2) (e1'.trans e2') (.bl _)⟩
end
end FX

set_option Elab.async false
set_option linter.all false
set_option maxRecDepth 100000
set_option maxHeartbeats 1000000
set_option autoImplicit false
namespace FW
open PySem L2 FD
open Evl (Ex)
abbrev dN (n : Nat) : PyData := .int (n : Int)
abbrev sN (n : Nat) : Sd := .d (dN n)
abbrev dNs (ns : List Nat) : PyData := .list (ns.map dN)
abbrev dNear (near : List (List Nat)) : PyData := .list (near.map dNs)
theorem atI_mapN {α β : Type} (f : α → β) {xs : List α} {i : Nat} {x : α} (h : xs[i]? = some x) : atI (xs.map f) (i : Int) = some (f x) := atI_map f (atI_nat h)

/-! ### entering a def -/
section
variable {N : List Str} {vs : List V} {H : Hp} {Q : VK} {E : XK} {t : TS} {D : Ends}
theorem enterN {R : Hp → Hp → List Sd → Cd → Prop} (h : SpN R vs H Q E) (k : ∀ F ss c, Ex F H → SlA F vs ss → R F H ss c → RetN ⟨F, H, []⟩ c Q → ∃ ss', SlA F vs ss' ∧ WP ⟨F, H, []⟩ (ss' ++ List.replicate (N.length - ss'.length) .no) [] t D) : t D (L2.start N vs) H := by
  obtain ⟨F, ss, c, hf, ha, hr, hq⟩ := h
  obtain ⟨ss', ha', w⟩ := k F ss c hf ha hr hq
  exact w _ _ ⟨F, St.start hf ha'⟩
theorem enterD {R : Hp → Hp → List Sd → Sd → Prop} (h : SpD R vs H Q E) (k : ∀ F ss s, Ex F H → SlA F vs ss → R F H ss s → Ret ⟨F, H, []⟩ s Q → ∃ ss', SlA F vs ss' ∧ WP ⟨F, H, []⟩ (ss' ++ List.replicate (N.length - ss'.length) .no) [] t D) : t D (L2.start N vs) H := by
  obtain ⟨F, ss, s, hf, ha, hr, hq⟩ := h
  obtain ⟨ss', ha', w⟩ := k F ss s hf ha hr hq
  exact w _ _ ⟨F, St.start hf ha'⟩
end

/-! ### come_to -/
def ctAdd (bar : Nat → Bool) (found os : List Nat) : List Nat := os.foldl (fun f o => if o ∈ f then f else if bar o then f else f ++ [o]) found
def ctRun (near : List (List Nat)) (bar : Nat → Bool) : Nat → List Nat → Nat → List Nat
  | 0, found, _ => found
  | k + 1, found, at_ => match found[at_]? with
    | none => found
    | some x => ctRun near bar k (ctAdd bar found (near.getD x [])) (at_ + 1)
def comeTo (near : List (List Nat)) (bar : Nat → Bool) (s : Nat) : List Nat := ctRun near bar near.length [s] 0
/-- rows of points below n -/
def NearOk (near : List (List Nat)) : Prop := near.length ≤ 16 ∧ ∀ r ∈ near, r.length ≤ 16 ∧ ∀ x ∈ r, x < near.length
/-- rows of points told by a dict of the caller's -/
def dictN (near : List (List Nat)) (ks : List Nat) : List (Key × Sd) := ks.map fun p : Nat => (.inl (p : Int), .d (dNs (near.getD p [])))
def DictN (F H : Hp) (d : Addr) (near : List (List Nat)) (ks : List Nat) : Prop := (∃ vs, Rd H d (.dK vs) ∧ KvA F vs (dictN near ks)) ∧ ∀ p ∈ ks, p < near.length ∧ ∀ x ∈ near.getD p [], x ∈ ks
def NearV (F H : Hp) (near : List (List Nat)) (s : Nat) (nv : Sd) : Prop := nv = .d (dNear near) ∨ ∃ d ks, nv = .v (.ref d) ∧ DictN F H d near ks ∧ s ∈ ks
def R_come_to : Hp → Hp → List Sd → Cd → Prop := fun F H ss c => ∃ (near : List (List Nat)) (s : Nat) (nv sv : Sd) (bar : Nat → Bool), ss = [nv, sN s, sv] ∧ NearV F H near s nv ∧ NearOk near ∧ s < near.length ∧
  (∀ v, SlV F v sv → ∃ a vs, v = .ref a ∧ H a = some (.dK vs) ∧ ∀ x : Nat, (valV vs (.inl (x : Int))).isSome = bar x) ∧ c = .lst ((comeTo near bar s).map sN)
def sp_come_to (K : PySem.W.Frag) (C : Addr) : Sp := SpN R_come_to
def N_come_to : List Str := ["near", "start", "barred", "found", "at", "other"]
def t_come_to (K : PySem.W.Frag) (C : Addr) : TS :=
  (tSeq (tAsg (tLst (tCons (tVar 1) tNil)) (gName 3))
  (tSeq (tAsg (tC (.int 0)) (gName 4))
  (tSeq (tWhile (tTest (tOp (rI0 fun i j => .bl (decide (i < j))) (tVar 4) (tCB (xLen K) (tCons (tVar 3) tNil)))) (tSeq (tFor (iList K (FX.tAlt (tOp (rIx K) (tVar 0) (tOp (rIx K) (tVar 3) (tVar 4))) (tDGet (tVar 0) (tOp (rIx K) (tVar 3) (tVar 4))))) (gName 5) (tIfS (tAnd (tTest (tOp (rIn K true) (tVar 5) (tVar 3))) (tB (tDNotIn (tVar 5) (tVar 2)))) (tDrop (tBM K "list" rAppend (tVar 3) (tCons (tVar 5) tNil))) tNext))
  (tAsg (tOp (rI0 fun i j => .int (i + j)) (tVar 4) (tC (.int 1))) (gName 4))))
  (tRet (tVar 3)))))
theorem ctAdd_snoc (bar : Nat → Bool) (f os : List Nat) (o : Nat) : ctAdd bar f (os ++ [o]) = (if o ∈ ctAdd bar f os then ctAdd bar f os else if bar o then ctAdd bar f os else ctAdd bar f os ++ [o]) := by
  unfold ctAdd; rw [List.foldl_append]; rfl
theorem ctAdd_ok (bar : Nat → Bool) (n : Nat) : ∀ (os f : List Nat), f.Nodup → (∀ x ∈ f, x < n) → (∀ x ∈ os, x < n) → (ctAdd bar f os).Nodup ∧ ∀ x ∈ ctAdd bar f os, x < n
  | [], f, h1, h2, _ => ⟨h1, h2⟩
  | o :: os, f, h1, h2, h3 => by
    show (ctAdd bar (if o ∈ f then f else if bar o then f else f ++ [o]) os).Nodup ∧ ∀ x ∈ ctAdd bar (if o ∈ f then f else if bar o then f else f ++ [o]) os, x < n
    have h3' : ∀ x ∈ os, x < n := fun x hx => h3 x (List.mem_cons_of_mem _ hx)
    by_cases c : o ∈ f
    · rw [if_pos c]; exact ctAdd_ok bar n os f h1 h2 h3'
    · rw [if_neg c]
      by_cases b : bar o = true
      · rw [if_pos b]; exact ctAdd_ok bar n os f h1 h2 h3'
      · rw [if_neg b]
        refine ctAdd_ok bar n os _ ?_ ?_ h3'
        · rw [List.nodup_append]
          refine ⟨h1, by simp, fun a ha b hb e => ?_⟩
          simp at hb; subst hb; subst e; exact c ha
        · intro x hx
          rcases List.mem_append.mp hx with hx | hx
          · exact h2 x hx
          · simp at hx; subst hx; exact h3 _ List.mem_cons_self
theorem nodup_len {n : Nat} {f : List Nat} (h1 : f.Nodup) (h2 : ∀ x ∈ f, x < n) : f.length ≤ n := by
  have h := List.Nodup.length_le_of_subset h1 (l₂ := List.range n) (fun x hx => List.mem_range.mpr (h2 x hx))
  rwa [List.length_range] at h
theorem look_dictN {near : List (List Nat)} {ks : List Nat} {p : Nat} (h : p ∈ ks) : lookA (dictN near ks) (.inl (p : Int)) = some (.d (dNs (near.getD p []))) := by
  induction ks with
  | nil => cases h
  | cons q ks ih =>
    show lookA ((.inl (q : Int), .d (dNs (near.getD q []))) :: dictN near ks) (.inl (p : Int)) = _
    rw [lookA_cons]
    by_cases c : q = p
    · subst c; rw [if_pos rfl]
    · rw [if_neg (fun z => c (by injection z; omega))]
      rcases List.mem_cons.mp h with e | h
      · exact absurd e.symm c
      · exact ih h
theorem ctAdd_mem (bar : Nat → Bool) {P : Nat → Prop} : ∀ (os f : List Nat), (∀ x ∈ f, P x) → (∀ x ∈ os, P x) → ∀ x ∈ ctAdd bar f os, P x
  | [], f, h, _ => h
  | o :: os, f, h, h2 => by
    show ∀ x ∈ ctAdd bar (if o ∈ f then f else if bar o then f else f ++ [o]) os, P x
    refine ctAdd_mem bar os _ ?_ fun x hx => h2 x (List.mem_cons_of_mem _ hx)
    split
    · exact h
    · split
      · exact h
      · intro x hx
        rcases List.mem_append.mp hx with hx | hx
        · exact h x hx
        · rw [List.mem_singleton.mp hx]; exact h2 _ List.mem_cons_self
theorem pure_come_to {K : PySem.W.Frag} {C : Addr} {vs : List V} {H : Hp} {Q : VK} {E : XK} (h : sp_come_to K C vs H Q E) : t_come_to K C { nx := fun _ H' => Q .non H', rt := Q } (L2.start N_come_to vs) H := by
  refine enterN h fun F ss c hf ha hR hq => ?_
  obtain ⟨near, s, nv, sv, bar, rfl, hnv, ⟨hn16, hnr⟩, hs, hbar, rfl⟩ := hR
  cases ha with | cons w0 ha => cases ha with | cons w1 ha => cases ha with | cons w2 ha =>
  cases ha
  obtain ⟨a, kvs, rfl, hB, hk⟩ := hbar _ w2
  refine ⟨[nv, sN s, .v (.ref a)], .cons w0 (.cons w1 (.cons rfl .nil)), ?_⟩
  show WP ⟨F, H, []⟩ [nv, sN s, .v (.ref a), .no, .no, .no] [] (t_come_to K C) _
  refine q_new (evN_lst (ea_cons (ev_var rfl rfl) ea_nil)) fun l hl => ?_
  have hl : H l = none := hl
  have hal : a ≠ l := fun z => by rw [z, hl] at hB; cases hB
  refine q_asg ev_int ?_
  have hread : ∃ P : Nat → Prop, P s ∧ (∀ p, P p → ∀ x ∈ near.getD p [], P x) ∧ ∀ p, P p → ∀ {B' : Base} {Δ' : List Sd} {C' : Cs} {te : TE}, p < near.length → Ex F B'.F → B'.H = H → (∀ x ∈ C'.map (·.1), x = l) → Δ'[0]? = some nv → Ev B' Δ' C' te (sN p) → Ev B' Δ' C' (FX.tAlt (tOp (rIx K) (tVar 0) te) (tDGet (tVar 0) te)) (.d (dNs (near.getD p []))) := by
    rcases hnv with rfl | ⟨d, ks, rfl, ⟨⟨vs, hrd, hkv⟩, hkc⟩, hsk⟩
    · refine ⟨fun _ => True, trivial, fun _ _ _ _ => trivial, fun p _ B' Δ' C' te hp _ _ _ h0 he => FX.ev_altL (ev_op (ev_var h0 rfl) he (rv_xL (atI_mapN dNs (by rw [List.getD_eq_getElem?_getD, List.getElem?_eq_getElem hp]; rfl))))⟩
    · refine ⟨fun p => p ∈ ks, hsk, fun p hp => (hkc p hp).2, fun p hpk B' Δ' C' te hp hF hH hC h0 he => FX.ev_altR (FX.ev_dgetB (d := d) (vs := vs) (kvs := dictN near ks) (x := .inl (p : Int)) (FX.rdS_base (by rw [hH]; exact hrd) fun z => ?_) (KvA.mono hF hkv) (ev_var h0 rfl) he (look_dictN hpk))⟩
      have := hC _ z
      subst this
      rcases hrd with h | ⟨o, h⟩ <;> rw [hl] at h <;> cases h
  obtain ⟨P, hPs, hPc, hread⟩ := hread
  refine q_while (α := List Nat × Nat × Nat) (fun p => ctRun near bar p.2.2 p.1 p.2.1 = comeTo near bar s ∧ p.1.Nodup ∧ (∀ x ∈ p.1, x < near.length) ∧ p.2.1 + p.2.2 = near.length ∧ ∀ x ∈ p.1, P x) (fun p => p.2.2)
    (fun p => [nv, sN s, .v (.ref a), .v (.ref l), sN p.2.1, .any]) (fun p => [(l, .lst (p.1.map sN))]) (fun p => decide (p.2.1 < p.1.length)) ?_ ?_ ?_ ?_
  · exact nx_inv ([s], 0, near.length) ⟨rfl, by simp, by simpa using hs, by simp, by simpa using hPs⟩ (.same (.same (.same (.same (.same (.any .nil))))))
  · rintro ⟨f, i, k⟩ ⟨e1, e2, e3, e4, e5⟩
    refine evT_eq (et_B (ev_op (ev_var rfl rfl) (ev_cb (ea_cons (ev_var rfl rfl) ea_nil) (rc_lenC (k := 0) rfl)) rv_ib)) ?_
    simp
  · rintro ⟨f, i, k⟩ ⟨e1, e2, e3, e4, e5⟩ hi
    have hi : i < f.length := of_decide_eq_true hi
    dsimp only at e1 e2 e3 e4 e5
    have hfl : f.length ≤ near.length := nodup_len e2 e3
    obtain ⟨k, rfl⟩ : ∃ k', k = k' + 1 := ⟨k - 1, by omega⟩
    have hfi : f[i]? = some f[i] := by simp [hi]
    have hx : f[i] < near.length := e3 _ (List.getElem_mem _)
    have hrow : near[f[i]]? = some near[f[i]] := by simp [hx]
    have hr0 : ∀ x ∈ near[f[i]], x < near.length := (hnr _ (List.getElem_mem _)).2
    refine q_for (α := List Nat) (js := [5]) (Src.list (ds := near[f[i]].map dN) (ev_eq (hread f[i] (e5 _ (List.getElem_mem _)) hx (Ex.refl F) rfl (by simp) rfl (ev_op (ev_var rfl rfl) (ev_var rfl rfl) (rv_xC 0 rfl (atI_mapN sN hfi)))) (show Sd.d (dNs (near.getD f[i] [])) = Sd.d (dNs near[f[i]]) by rw [List.getD_eq_getElem?_getD, hrow]; rfl))) (fun d Δ => Δ.set 5 (.d d)) (fun d _ => tg_name)
      (fun j g => g = ctAdd bar f (near[f[i]].take j)) (fun _ _ => [nv, sN s, .v (.ref a), .v (.ref l), sN i, .any]) (fun _ g => [(l, .lst (g.map sN))]) ?_ ?_ ?_
    · intro G
      exact nx_inv f rfl (Wk.refl _)
    · intro G j g d hd hg
      rw [List.getElem?_map] at hd
      obtain ⟨o, ho, rfl⟩ : ∃ o, near[f[i]][j]? = some o ∧ dN o = d := by
        cases q : near[f[i]][j]? with
        | none => rw [q] at hd; cases hd
        | some o => rw [q] at hd; exact ⟨o, rfl, Option.some.inj hd⟩
      have om : o < near.length := hr0 o (List.mem_of_getElem? ho)
      have hstep : ctAdd bar f (near[f[i]].take (j + 1)) = (if o ∈ g then g else if bar o then g else g ++ [o]) := by
        rw [take_succ ho, ctAdd_snoc, ← hg]
      refine s_when (b := !decide (o ∈ g) && !bar o) ?_ ?_ ?_
      · refine evT_eq (et_and (et_B (ev_op (ev_var rfl rfl) (ev_var rfl rfl) (rv_inCN (k := 0) rfl))) fun _ => et_B (ev_dniA (x := .inl (o : Int)) hB (by simpa using hal) (ev_var rfl rfl) (ev_var rfl rfl))) ?_
        rw [hk o]; rfl
      · intro hb
        have hb' : ¬ o ∈ g ∧ ¬ bar o = true := by simpa using hb
        refine s_app (k := 0) rfl (ev_var rfl rfl) (ev_var rfl rfl) (nx_inv (g ++ [o]) ?_ (.same (.same (.same (.same (.same (.any .nil)))))) ?_) ?_
        · rw [hstep, if_neg hb'.1, if_neg hb'.2]
        · simp
        · have := (ctAdd_ok bar near.length (near[f[i]].take j) f e2 e3 (fun x hx => hr0 x (List.mem_of_mem_take hx)))
          rw [← hg] at this
          have := nodup_len this.1 this.2
          simp; omega
      · intro hb
        refine nx_inv g ?_ (.same (.same (.same (.same (.same (.any .nil))))))
        rw [hstep]
        by_cases c : o ∈ g
        · rw [if_pos c]
        · rw [if_neg c]
          have : bar o = true := by simpa [c] using hb
          rw [if_pos this]
    · intro g hg
      have hg : g = ctAdd bar f near[f[i]] := by rw [hg, List.length_map, List.take_length]
      obtain ⟨g1, g2⟩ := ctAdd_ok bar near.length near[f[i]] f e2 e3 hr0
      refine s_asg (ev_op (ev_var rfl rfl) ev_int rv_ii) (nx_inv (g, i + 1, k) ⟨⟨?_, ?_, ?_, ?_, ?_⟩, ?_⟩ (.same (.same (.same (.same (.same (.any .nil)))))))
      · rw [← e1, hg]
        show _ = match f[i]? with | none => f | some x => ctRun near bar k (ctAdd bar f (near.getD x [])) (i + 1)
        rw [hfi]
        show ctRun near bar k (ctAdd bar f near[f[i]]) (i + 1) = ctRun near bar k (ctAdd bar f (near.getD f[i] [])) (i + 1)
        rw [List.getD_eq_getElem?_getD, hrow]; rfl
      · rw [hg]; exact g1
      · rw [hg]; exact g2
      · show i + 1 + k = near.length; omega
      · rw [hg]
        refine ctAdd_mem bar _ _ e5 fun y hy => hPc f[i] (e5 _ (List.getElem_mem _)) y ?_
        rw [List.getD_eq_getElem?_getD, hrow]; exact hy
      · show k < k + 1; omega
  · rintro ⟨f, i, k⟩ ⟨e1, e2, e3, e4, e5⟩ hi
    have hi : ¬ i < f.length := of_decide_eq_false hi
    dsimp only at e1 e2 e3 e4 e5
    have e : f = comeTo near bar s := by
      rw [← e1]
      cases k with
      | zero => rfl
      | succ k =>
        show f = match f[i]? with | none => f | some x => ctRun near bar k (ctAdd bar f (near.getD x [])) (i + 1)
        rw [List.getElem?_eq_none (by omega)]
    subst e
    exact s_retN (k := 0) rfl (ev_var rfl rfl) hq (by simpa using hl)

/-! ### the web's mathematics -/
def sortN (ns : List Nat) : List Nat := ns.mergeSort (fun a b => decide (a ≤ b))
theorem sortN_perm (ns : List Nat) : (sortN ns).Perm ns := List.mergeSort_perm ns _
theorem sortN_pw (ns : List Nat) : (sortN ns).Pairwise (· ≤ ·) := by
  have h := List.pairwise_mergeSort (le := fun a b : Nat => decide (a ≤ b)) (fun a b c => by simp; omega) (fun a b => by simp; omega) ns
  exact h.imp (by simp)
theorem sortN_uniq {as bs : List Nat} (h : as.Perm bs) (h1 : as.Pairwise (· ≤ ·)) : as = sortN bs := (h.trans (sortN_perm bs).symm).eq_of_pairwise (fun a b _ _ x y => Nat.le_antisymm x y) h1 (sortN_pw bs)
theorem sortI_nat (ns : List Nat) : sortI (ns.map fun n : Nat => (n : Int)) = (sortN ns).map fun n : Nat => (n : Int) := by
  refine (sortI_uniq ((sortN_perm ns).map _) ?_).symm
  rw [List.pairwise_map]
  exact (sortN_pw ns).imp (by intro a b h; omega)
theorem mem_sortN {ns : List Nat} {x : Nat} : x ∈ sortN ns ↔ x ∈ ns := (sortN_perm ns).mem_iff
abbrev Tie := Nat × Nat
abbrev dTie (t : Tie) : PyData := .tuple [dN t.1, dN t.2]
abbrev dTies (ts : List Tie) : PyData := .list (ts.map dTie)
def addTo (near : List (List Nat)) (a b : Nat) : List (List Nat) := near.set a (sortN (near.getD a [] ++ [b]))
def addTie (near : List (List Nat)) (t : Tie) : List (List Nat) := addTo (addTo near t.1 t.2) t.2 t.1
def nearOf (n : Nat) (ts : List Tie) : List (List Nat) := ts.foldl addTie (List.replicate n [])
def Fresh (s t : Tie) : Prop := s ≠ t ∧ s ≠ (t.2, t.1)
/-- ties of a web of n points -/
structure Good (n : Nat) (ts : List Tie) : Prop where
  rng : ∀ t ∈ ts, t.1 < n ∧ t.2 < n ∧ t.1 ≠ t.2
  pw : ts.Pairwise Fresh
theorem addTo_len (near : List (List Nat)) (a b : Nat) : (addTo near a b).length = near.length := List.length_set
theorem nearOf_snoc (n : Nat) (ts : List Tie) (t : Tie) : nearOf n (ts ++ [t]) = addTie (nearOf n ts) t := by unfold nearOf; rw [List.foldl_append]; rfl
theorem nearOf_len (n : Nat) (ts : List Tie) : (nearOf n ts).length = n := by
  have h : ∀ (ts : List Tie) (near : List (List Nat)), (ts.foldl addTie near).length = near.length := by
    intro ts
    induction ts with
    | nil => intro near; rfl
    | cons t ts ih => intro near; rw [List.foldl_cons, ih]; unfold addTie; rw [addTo_len, addTo_len]
  unfold nearOf; rw [h, List.length_replicate]
theorem addTo_get (near : List (List Nat)) (a b x : Nat) (ha : a < near.length) : (addTo near a b).getD x [] = if x = a then sortN (near.getD a [] ++ [b]) else near.getD x [] := by
  unfold addTo
  rw [List.getD_eq_getElem?_getD, List.getElem?_set]
  by_cases h : a = x
  · subst h; simp [ha]
  · have h' : ¬ x = a := fun z => h z.symm
    rw [if_neg h, if_neg h', List.getD_eq_getElem?_getD]
theorem addTo_mem (near : List (List Nat)) (a b x y : Nat) (ha : a < near.length) : y ∈ (addTo near a b).getD x [] ↔ y ∈ near.getD x [] ∨ (x = a ∧ y = b) := by
  rw [addTo_get near a b x ha]
  by_cases h : x = a
  · subst h; rw [if_pos rfl, mem_sortN, List.mem_append]; simp
  · rw [if_neg h]; simp [h]
theorem addTie_mem (near : List (List Nat)) (t : Tie) (x y : Nat) (h1 : t.1 < near.length) (h2 : t.2 < near.length) : y ∈ (addTie near t).getD x [] ↔ y ∈ near.getD x [] ∨ (x, y) = t ∨ (y, x) = t := by
  unfold addTie
  rw [addTo_mem _ _ _ _ _ (by rw [addTo_len]; exact h2), addTo_mem _ _ _ _ _ h1]
  obtain ⟨a, b⟩ := t
  simp only [Prod.mk.injEq]
  constructor
  · rintro ((h | ⟨rfl, rfl⟩) | ⟨rfl, rfl⟩)
    · exact .inl h
    · exact .inr (.inl ⟨rfl, rfl⟩)
    · exact .inr (.inr ⟨rfl, rfl⟩)
  · rintro (h | ⟨rfl, rfl⟩ | ⟨rfl, rfl⟩)
    · exact .inl (.inl h)
    · exact .inl (.inr ⟨rfl, rfl⟩)
    · exact .inr ⟨rfl, rfl⟩
theorem rev_ind {α : Type} {P : List α → Prop} (h0 : P []) (h1 : ∀ l a, P l → P (l ++ [a])) : ∀ l, P l := by
  have h : ∀ n (l : List α), l.length = n → P l := by
    intro n
    induction n with
    | zero => intro l e; rw [List.length_eq_zero_iff.mp e]; exact h0
    | succ n ih =>
      intro l e
      have hne : l ≠ [] := by intro z; subst z; simp at e
      rw [← List.dropLast_concat_getLast hne]
      exact h1 _ _ (ih _ (by rw [List.length_dropLast]; omega))
  exact fun l => h _ l rfl
theorem nearOf_mem (n : Nat) : ∀ (ts : List Tie), (∀ t ∈ ts, t.1 < n ∧ t.2 < n) → ∀ x y, y ∈ (nearOf n ts).getD x [] ↔ (x, y) ∈ ts ∨ (y, x) ∈ ts := by
  refine rev_ind ?_ ?_
  · intro _ x y
    unfold nearOf
    rw [List.foldl_nil, List.getD_eq_getElem?_getD, List.getElem?_replicate]
    split <;> simp
  · intro l a ih h x y
    have hl : ∀ t ∈ l, t.1 < n ∧ t.2 < n := fun t ht => h t (List.mem_append_left _ ht)
    have ha := h a (List.mem_append_right _ List.mem_cons_self)
    rw [nearOf_snoc, addTie_mem _ _ _ _ (by rw [nearOf_len]; exact ha.1) (by rw [nearOf_len]; exact ha.2), ih hl]
    simp only [List.mem_append, List.mem_singleton]
    constructor
    · rintro ((h | h) | h | h)
      · exact .inl (.inl h)
      · exact .inr (.inl h)
      · exact .inl (.inr h)
      · exact .inr (.inr h)
    · rintro ((h | h) | h | h)
      · exact .inl (.inl h)
      · exact .inr (.inl h)
      · exact .inl (.inr h)
      · exact .inr (.inr h)
theorem addTo_row (near : List (List Nat)) (a b x : Nat) (ha : a < near.length) (h : (near.getD x []).Pairwise (· < ·)) (hn : x = a → b ∉ near.getD a []) : ((addTo near a b).getD x []).Pairwise (· < ·) := by
  rw [addTo_get near a b x ha]
  by_cases e : x = a
  · subst e
    rw [if_pos rfl]
    have h2 : (near.getD x [] ++ [b]).Nodup := by
      rw [List.nodup_append]
      refine ⟨h.imp (by intro a b h; omega), by simp, fun y hy z hz e => ?_⟩
      simp at hz; subst hz; subst e; exact hn rfl hy
    have h3 : (sortN (near.getD x [] ++ [b])).Nodup := (sortN_perm _).nodup_iff.mpr h2
    have h4 := (sortN_pw (near.getD x [] ++ [b])).and h3
    exact h4.imp (by intro a b h; omega)
  · rw [if_neg e]; exact h
theorem nearOf_row (n : Nat) : ∀ (ts : List Tie), Good n ts → ∀ x, ((nearOf n ts).getD x []).Pairwise (· < ·) := by
  refine rev_ind ?_ ?_
  · intro _ x
    unfold nearOf
    rw [List.foldl_nil, List.getD_eq_getElem?_getD, List.getElem?_replicate]
    split <;> simp
  · intro l t ih g x
    have gl : Good n l := ⟨fun t ht => g.rng t (List.mem_append_left _ ht), (List.pairwise_append.mp g.pw).1⟩
    have ht := g.rng t (List.mem_append_right _ List.mem_cons_self)
    have hf : ∀ s ∈ l, Fresh s t := fun s hs => (List.pairwise_append.mp g.pw).2.2 s hs t List.mem_cons_self
    rw [nearOf_snoc]
    unfold addTie
    have m := nearOf_mem n l (fun s hs => ⟨(gl.rng s hs).1, (gl.rng s hs).2.1⟩)
    have l1 : t.1 < (nearOf n l).length := by rw [nearOf_len]; exact ht.1
    have l2 : t.2 < (nearOf n l).length := by rw [nearOf_len]; exact ht.2.1
    have no1 : t.2 ∉ (nearOf n l).getD t.1 [] := by
      rw [m]; rintro (h | h)
      · exact (hf _ h).1 rfl
      · exact (hf _ h).2 rfl
    have no2 : t.1 ∉ (nearOf n l).getD t.2 [] := by
      rw [m]; rintro (h | h)
      · exact (hf _ h).2 rfl
      · exact (hf _ h).1 rfl
    refine addTo_row _ _ _ _ (by rw [addTo_len]; exact l2) (addTo_row _ _ _ _ l1 (ih gl x) fun _ => no1) fun e => ?_
    rw [addTo_mem _ _ _ _ _ l1]
    rintro (h | h)
    · exact no2 h
    · exact ht.2.2 h.1.symm
theorem nearOf_ok {n : Nat} {ts : List Tie} (g : Good n ts) (hn : n ≤ 16) : NearOk (nearOf n ts) := by
  have hb : ∀ r ∈ nearOf n ts, ∀ x ∈ r, x < n := ?_
  · refine ⟨by rw [nearOf_len]; exact hn, fun r hr => ⟨?_, fun x hx => by rw [nearOf_len]; exact hb r hr x hx⟩⟩
    obtain ⟨i, hi, rfl⟩ := List.getElem_of_mem hr
    have hp := nearOf_row n ts g i
    rw [List.getD_eq_getElem?_getD, List.getElem?_eq_getElem hi] at hp
    have := nodup_len (n := n) (List.Pairwise.imp (fun h => Nat.ne_of_lt h) hp) (hb _ hr)
    exact Nat.le_trans this hn
  intro r hr x hx
  obtain ⟨i, hi, rfl⟩ := List.getElem_of_mem hr
  have hx' : x ∈ (nearOf n ts).getD i [] := by rw [List.getD_eq_getElem?_getD, List.getElem?_eq_getElem hi]; exact hx
  rcases (nearOf_mem n ts (fun s hs => ⟨(g.rng s hs).1, (g.rng s hs).2.1⟩) i x).mp hx' with h | h
  · exact (g.rng _ h).2.1
  · exact (g.rng _ h).1

/-! ### the web at work -/
structure WebC (K : PySem.W.Frag) (C : Addr) : Prop where
  cl : Cls K C
  nM : NoAttr K C "many"
  nN : NoAttr K C "near"
def webF (n : Nat) (l : Addr) : List (Str × V) := [("many", .int (n : Int)), ("near", .ref l)]
theorem mn_ : ¬ (("many" : Str) = "near") := by decide +kernel
theorem nm_ : ¬ (("near" : Str) = "many") := by decide +kernel
theorem webF_many (n : Nat) (l : Addr) : (webF n l).lookup ("many" : Str) = some (.int (n : Int)) := by simp [webF, List.lookup]
theorem webF_near (n : Nat) (l : Addr) : (webF n l).lookup ("near" : Str) = some (.ref l) := by
  have h : (("near" : Str) == ("many" : Str)) = false := by simpa using nm_
  simp [webF, List.lookup, h]
/-- a web of n points and the rows near -/
def WebM (C : Addr) (n : Nat) (near : List (List Nat)) : Mono := ⟨fun F v => ∃ a dx l, v = .ref a ∧ F a = some (.ins C dx (webF n l)) ∧ Rep F (.ref l) (dNear near), fun F F' v e h => by
  obtain ⟨a, dx, l, h1, h2, h3⟩ := h
  exact ⟨a, dx, l, h1, e _ _ h2, Rep.mono e _ _ h3⟩⟩
section
variable {B : Base} {Δ : List Sd} {C : Cs} {te : TE} {K : PySem.W.Frag} {A : Addr} {n : Nat} {near : List (List Nat)}
theorem ev_many (w : WebC K A) (h : Ev B Δ C te (.p (WebM A n near))) : Ev B Δ C (tFld K te "many") (.d (dN n)) := ev_fld h fun F v hv => by
  obtain ⟨a, dx, l, h1, h2, h3⟩ := hv
  exact ⟨a, A, dx, _, _, h1, h2, w.cl, w.nM, webF_many n l, .int _⟩
theorem ev_near (w : WebC K A) (h : Ev B Δ C te (.p (WebM A n near))) : Ev B Δ C (tFld K te "near") (.d (dNear near)) := ev_fld h fun F v hv => by
  obtain ⟨a, dx, l, h1, h2, h3⟩ := hv
  exact ⟨a, A, dx, _, _, h1, h2, w.cl, w.nN, webF_near n l, h3⟩
end
theorem webF_no (n : Nat) (l : Addr) {f : Str} (h1 : ¬ f = "many") (h2 : ¬ f = "near") : (webF n l).lookup f = none := by
  have g1 : (f == ("many" : Str)) = false := by simpa using h1
  have g2 : (f == ("near" : Str)) = false := by simpa using h2
  simp [webF, List.lookup, g1, g2]
/-- a web has no attribute of a method's name -/
theorem selfI {A : Addr} {n : Nat} {near : List (List Nat)} {F : Hp} {v : V} {f : Str} (h : (WebM A n near).φ F v) (h1 : ¬ f = "many" := by decide +kernel) (h2 : ¬ f = "near" := by decide +kernel) : ∃ a dx fs, v = .ref a ∧ F a = some (.ins A dx fs) ∧ fs.lookup f = none := by
  obtain ⟨a, dx, l, e1, e2, e3⟩ := h
  exact ⟨a, dx, _, e1, e2, webF_no n l h1 h2⟩
/-- whole numbers -/
def wholeD : PyData → Bool
  | .int _ => true
  | _ => false
def hasB (n : Nat) : PyData → Bool
  | .int i => decide (0 ≤ i) && decide (i < (n : Int))
  | _ => false
theorem hasB_nat {n x : Nat} (h : x < n) : hasB n (dN x) = true := by
  unfold hasB; simp; exact h
def R_whole : Hp → Hp → List Sd → Sd → Prop := fun _ _ ss s => ∃ d, ss = [.d d] ∧ s = .d (.bool (wholeD d))
def sp_is_whole (K : PySem.W.Frag) (C : Addr) : Sp := SpD R_whole
/-- a value is an instance with that field, over what stands -/
def SelfH (C : Addr) (H : Hp) (v : V) (n : Nat) : Prop := ∃ a dx fs, v = .ref a ∧ H a = some (.ins C dx fs) ∧ fs.lookup ("many" : Str) = some (.int (n : Int)) ∧ fs.lookup ("has" : Str) = none
theorem selfH {B : Base} {Δ : List Sd} {C : Cs} {σ : L2.St} {A : Addr} {n : Nat} {near : List (List Nat)} {F H : Hp} {v : V} (hs : St B Δ C σ H F) (h : (WebM A n near).φ F v) : SelfH A H v n := by
  obtain ⟨a, dx, l, e1, e2, e3⟩ := h
  exact ⟨a, dx, _, e1, hs.fh _ _ e2, webF_many n l, webF_no n l (by decide +kernel) (by decide +kernel)⟩
def R_has (C : Addr) : Hp → Hp → List Sd → Sd → Prop := fun F H ss s => ∃ sv d n, ss = [sv, .d d] ∧ (∀ v, SlV F v sv → SelfH C H v n) ∧ s = .d (.bool (hasB n d))
def sp_Web_has (K : PySem.W.Frag) (C : Addr) : Sp := SpD (R_has C)
def R_need (C : Addr) : Hp → Hp → List Sd → Sd → Prop := fun F H ss s => ∃ sv d n, ss = [sv, .d d] ∧ (∀ v, SlV F v sv → SelfH C H v n) ∧ hasB n d = true ∧ s = .d .none
def sp_Web_need (K : PySem.W.Frag) (C : Addr) : Sp := SpD (R_need C)
def tiesOf (n : Nat) (near : List (List Nat)) : List Tie := (List.range n).flatMap fun a => ((near.getD a []).filter fun b => decide (a < b)).map fun b => (a, b)
def R_ties (C : Addr) : Hp → Hp → List Sd → Cd → Prop := fun F H ss c => ∃ n near, ss = [.p (WebM C n near)] ∧ near.length = n ∧ NearOk near ∧ c = .lst ((tiesOf n near).map fun t => .d (dTie t))
def sp_Web_ties (K : PySem.W.Frag) (C : Addr) : Sp := SpN (R_ties C)
def R_beside (C : Addr) : Hp → Hp → List Sd → Cd → Prop := fun F H ss c => ∃ n near x, ss = [.p (WebM C n near), sN x] ∧ near.length = n ∧ x < n ∧ c = .lst ((near.getD x []).map sN)
def sp_Web_beside (K : PySem.W.Frag) (C : Addr) : Sp := SpN (R_beside C)
def R_tied (C : Addr) : Hp → Hp → List Sd → Sd → Prop := fun F H ss s => ∃ n near x y, ss = [.p (WebM C n near), sN x, sN y] ∧ near.length = n ∧ x < n ∧ y < n ∧ s = .d (.bool (decide (y ∈ near.getD x [])))
def sp_Web_tied (K : PySem.W.Frag) (C : Addr) : Sp := SpD (R_tied C)
def R_init (C : Addr) : Hp → Hp → List Sd → Mono → Prop := fun F H ss m => ∃ n ts sv, ss = [sN n, sv] ∧ (∀ v, SlV F v sv → ∃ l xs, v = .ref l ∧ H l = some (.lst xs) ∧ RepA F xs (ts.map dTie)) ∧ 1 ≤ n ∧ n ≤ 16 ∧ ts.length ≤ 40 ∧ Good n ts ∧ m = WebM C n (nearOf n ts)
def sp_Web_init (K : PySem.W.Frag) (C : Addr) : Sp := SpI C (R_init C)
def N_is_whole : List Str := ["thing"]
def t_is_whole (K : PySem.W.Frag) (C : Addr) : TS :=
  (tRet (tAndV (tCB (rIsi K) (tCons (tVar 0) (tCons (tC (.ty "int")) tNil))) (tNotV (tCB (rIsi K) (tCons (tVar 0) (tCons (tC (.ty "bool")) tNil))))))
def N_Web_has : List Str := ["self", "point"]
def t_Web_has (K : PySem.W.Frag) (C : Addr) : TS :=
  (tRet (tAndV (tCall (sp_is_whole K C) [] E0 (tCons (tVar 1) tNil)) (tChain (rI0 fun i j => .bl (decide (i ≤ j))) (rI0 fun i j => .bl (decide (i < j))) (tC (.int 0)) (tVar 1) (tFld K (tVar 0) "many"))))
def N_Web_need : List Str := ["self", "point"]
def t_Web_need (K : PySem.W.Frag) (C : Addr) : TS :=
  (tIfS (tNot (tB (tMeth C "has" (sp_Web_has K C) [] E0 (tVar 0) (tCons (tVar 1) tNil)))) tNever tNext)
def N_Web_ties : List Str := ["self", "found", "one", "other"]
def t_Web_ties (K : PySem.W.Frag) (C : Addr) : TS :=
  (tSeq (tAsg (tLst tNil) (gName 1))
  (tSeq (tFor (iRng1 (tCons (tFld K (tVar 0) "many") tNil)) (gName 2) (tFor (iList K (tOp (rIx K) (tFld K (tVar 0) "near") (tVar 2))) (gName 3) (tIfS (tTest (tOp (rI0 fun i j => .bl (decide (i < j))) (tVar 2) (tVar 3))) (tDrop (tBM K "list" rAppend (tVar 1) (tCons (tTup (tCons (tVar 2) (tCons (tVar 3) tNil))) tNil))) tNext)))
  (tRet (tVar 1))))
def N_Web_beside : List Str := ["self", "point"]
def t_Web_beside (K : PySem.W.Frag) (C : Addr) : TS :=
  (tSeq (tDrop (tMeth C "need" (sp_Web_need K C) [] E0 (tVar 0) (tCons (tVar 1) tNil)))
  (tRet (tCB (xListOf K) (tCons (tOp (rIx K) (tFld K (tVar 0) "near") (tVar 1)) tNil))))
def N_Web_tied : List Str := ["self", "one", "other"]
def t_Web_tied (K : PySem.W.Frag) (C : Addr) : TS :=
  (tSeq (tDrop (tMeth C "need" (sp_Web_need K C) [] E0 (tVar 0) (tCons (tVar 1) tNil)))
  (tSeq (tDrop (tMeth C "need" (sp_Web_need K C) [] E0 (tVar 0) (tCons (tVar 2) tNil)))
  (tRet (tOp (rIn K false) (tVar 2) (tOp (rIx K) (tFld K (tVar 0) "near") (tVar 1))))))
def N_Web_init : List Str := ["self", "many", "ties", "point", "tie"]
def t_Web_init (K : PySem.W.Frag) (C : Addr) : TS :=
  (tSeq (tIfS (tOr (tNot (tB (tCall (sp_is_whole K C) [] E0 (tCons (tVar 1) tNil)))) (tNot (tTest (tChain (rI0 fun i j => .bl (decide (i ≤ j))) (rI0 fun i j => .bl (decide (i ≤ j))) (tC (.int 1)) (tVar 1) (tC (.int 16)))))) tNever tNext)
  (tSeq (tIfS (tOr (tNot (tB (tCB (rIsi K) (tCons (tVar 2) (tCons (tC (.ty "list")) tNil))))) (tTest (tOp (rI0 fun i j => .bl (decide (j < i))) (tCB (xLen K) (tCons (tVar 2) tNil)) (tC (.int 40))))) tNever tNext)
  (tSeq (sFld K (tVar 0) (tVar 1) "many")
  (tSeq (sFld K (tVar 0) (tLc (iRng1 (tCons (tVar 1) tNil)) (gName 3) tYes (tLst tNil) [3]) "near")
  (tFor (iList K (tVar 2)) (gName 4) (tSeq (tIfS (tOr (tNot (tB (tCB (rIsi K) (tCons (tVar 4) (tCons (tC (.ty "tuple")) tNil))))) (tOr (tTest (tOp rNe (tCB (xLen K) (tCons (tVar 4) tNil)) (tC (.int 2)))) (tOr (tNot (tB (tMeth C "has" (sp_Web_has K C) [] E0 (tVar 0) (tCons (tOp (rIx K) (tVar 4) (tC (.int 0))) tNil)))) (tNot (tB (tMeth C "has" (sp_Web_has K C) [] E0 (tVar 0) (tCons (tOp (rIx K) (tVar 4) (tC (.int 1))) tNil))))))) tNever tNext)
  (tSeq (tIfS (tOr (tTest (tOp rEq (tOp (rIx K) (tVar 4) (tC (.int 0))) (tOp (rIx K) (tVar 4) (tC (.int 1))))) (tTest (tOp (rIn K false) (tOp (rIx K) (tVar 4) (tC (.int 1))) (tOp (rIx K) (tFld K (tVar 0) "near") (tOp (rIx K) (tVar 4) (tC (.int 0))))))) tNever tNext)
  (tSeq (tAsg (tCB (rSortedI K) (tCons (tOp rCat (tOp (rIx K) (tFld K (tVar 0) "near") (tOp (rIx K) (tVar 4) (tC (.int 0)))) (tLst (tCons (tOp (rIx K) (tVar 4) (tC (.int 1))) tNil))) tNil)) (gSub (tFld K (tVar 0) "near") (tOp (rIx K) (tVar 4) (tC (.int 0))) rSetL))
  (tAsg (tCB (rSortedI K) (tCons (tOp rCat (tOp (rIx K) (tFld K (tVar 0) "near") (tOp (rIx K) (tVar 4) (tC (.int 1)))) (tLst (tCons (tOp (rIx K) (tVar 4) (tC (.int 0))) tNil))) tNil)) (gSub (tFld K (tVar 0) "near") (tOp (rIx K) (tVar 4) (tC (.int 1))) rSetL))))))))))
section
variable {K : PySem.W.Frag} {C : Addr} {vs : List V} {H : Hp} {Q : VK} {E : XK}
theorem pure_is_whole (h : sp_is_whole K C vs H Q E) : t_is_whole K C { nx := fun _ H' => Q .non H', rt := Q } (L2.start N_is_whole vs) H := by
  refine enterD h fun F ss s hf ha hR hq => ?_
  obtain ⟨d, rfl, rfl⟩ := hR
  refine ⟨_, ha, ?_⟩
  show WP ⟨F, H, []⟩ [.d d] [] (t_is_whole K C) _
  have key : ∀ a b : Bool, kitB (tyD d) "int" = some a → (a = true → kitB (tyD d) "bool" = some b) → (a && !b) = wholeD d → WP ⟨F, H, []⟩ [.d d] [] (t_is_whole K C) { nx := fun _ H' => Q .non H', rt := Q } := by
    intro a b h1 h2 h3
    refine s_ret (ev_eq (ev_andV (ev_cb (ea_cons (ev_var rfl rfl) (ea_cons ev_cv ea_nil)) (rc_isi h1)) (fun z => ev_notV (ev_cb (ea_cons (ev_var rfl rfl) (ea_cons ev_cv ea_nil)) (rc_isi (h2 z))))) (by rw [h3])) ?_
    exact hq
  cases d with
  | none => exact key false false kit_ni (fun z => by cases z) rfl
  | bool b => exact key true true kit_bi (fun _ => kit_bb) rfl
  | int i => exact key true false kit_ii (fun _ => kit_ib) rfl
  | str s => exact key false false kit_si (fun z => by cases z) rfl
  | list s => exact key false false kit_li (fun z => by cases z) rfl
  | tuple s => exact key false false kit_ti (fun z => by cases z) rfl
  | dict s => cases ha with | cons h _ => cases h
theorem pure_Web_has (w : WebC K C) (h : sp_Web_has K C vs H Q E) : t_Web_has K C { nx := fun _ H' => Q .non H', rt := Q } (L2.start N_Web_has vs) H := by
  refine enterD h fun F ss s hf ha hR hq => ?_
  obtain ⟨sv, d, n, rfl, hv, rfl⟩ := hR
  cases ha with | cons w0 ha => cases ha with | cons w1 ha =>
  cases ha
  obtain ⟨a, dx, fs, rfl, hB, hm, _⟩ := hv _ w0
  refine ⟨[.v (.ref a), .d d], .cons rfl (.cons w1 .nil), ?_⟩
  show WP ⟨F, H, []⟩ [.v (.ref a), .d d] [] (t_Web_has K C) _
  have h1 : Ev ⟨F, H, []⟩ [.v (.ref a), .d d] [] (tCall (sp_is_whole K C) [] E0 (tCons (tVar 1) tNil)) (.d (.bool (wholeD d))) := ev_call (ea_cons (ev_var rfl rfl) ea_nil) fun _ _ _ _ => ⟨d, rfl, rfl⟩
  have hmany : Ev ⟨F, H, []⟩ [.v (.ref a), .d d] [] (tFld K (tVar 0) "many") (.v (.int (n : Int))) := ev_fldA (by exact hB) (by simp) (ev_var rfl rfl) w.cl w.nM hm
  by_cases hd : wholeD d = true
  · obtain ⟨i, rfl⟩ : ∃ i, d = .int i := by cases d <;> first | exact ⟨_, rfl⟩ | cases hd
    refine s_ret (ev_eq (ev_andV h1 fun _ => ev_chain (a := decide (0 ≤ i)) (b := decide (i < (n : Int))) ev_int (ev_var rfl rfl) rv_ib (fun _ => ev_vdI hmany) (fun _ => rv_ib)) rfl) hq
  · have hd' : wholeD d = false := by simpa using hd
    refine s_ret (ev_eq (ev_andV (b := false) h1 fun z => absurd z hd) ?_) hq
    rw [hd']; cases d <;> first | rfl | exact absurd rfl hd
theorem pure_Web_need (w : WebC K C) (h : sp_Web_need K C vs H Q E) : t_Web_need K C { nx := fun _ H' => Q .non H', rt := Q } (L2.start N_Web_need vs) H := by
  refine enterD h fun F ss s hf ha hR hq => ?_
  obtain ⟨sv, d, n, rfl, hv, hb, rfl⟩ := hR
  cases ha with | cons w0 ha => cases ha with | cons w1 ha =>
  cases ha
  obtain ⟨a, dx, fs, rfl, hB, hm, hh⟩ := hv _ w0
  refine ⟨[.v (.ref a), .d d], .cons rfl (.cons w1 .nil), ?_⟩
  show WP ⟨F, H, []⟩ [.v (.ref a), .d d] [] (t_Web_need K C) _
  refine s_nev (et_nF (et_B (ev_methA hB (by simp) (ev_var rfl rfl) hh (ea_cons (ev_var rfl rfl) ea_nil) (s := .d (.bool (hasB n d))) fun σ H' F' hs => ⟨.v (.ref a), d, n, rfl, fun v e => ?_, rfl⟩)) hb) rfl ?_
  · cases e; exact ⟨a, dx, fs, rfl, hs.hh a _ (by simp) hB, hm, hh⟩
  · rintro σ H' ⟨F', hs⟩
    exact hq .non F' H' (hs.ext (by simp)) .non
theorem tiL_len {β : Type} (f : Nat → List β) (m : Nat) : ∀ k, (∀ x, (f x).length ≤ m) → ((List.range k).flatMap f).length ≤ m * k
  | 0, _ => by simp
  | k + 1, h => by
    rw [List.range_succ, List.flatMap_append, List.length_append, Nat.mul_succ]
    have h1 := tiL_len f m k h
    have h2 := h k
    simp only [List.flatMap_cons, List.flatMap_nil, List.append_nil]
    omega
theorem pure_Web_ties (w : WebC K C) (h : sp_Web_ties K C vs H Q E) : t_Web_ties K C { nx := fun _ H' => Q .non H', rt := Q } (L2.start N_Web_ties vs) H := by
  refine enterN h fun F ss s hf ha hR hq => ?_
  obtain ⟨n, near, rfl, hl, ⟨h16, hnr⟩, rfl⟩ := hR
  refine ⟨_, ha, ?_⟩
  show WP ⟨F, H, []⟩ [.p (WebM C n near), .no, .no, .no] [] (t_Web_ties K C) _
  refine q_new evN_lst0 fun l hlf => ?_
  have hlf : H l = none := hlf
  let ti (k : Nat) : List Tie := (List.range k).flatMap fun a => ((near.getD a []).filter fun b => decide (a < b)).map fun b => (a, b)
  refine q_for (α := Unit) (js := [2]) (Src.r1 (ea_cons (ev_many w (ev_var rfl rfl)) ea_nil)) (fun d Δ => Δ.set 2 (.d d)) (fun _ _ => tg_name) (fun _ _ => True) (fun _ _ => [.p (WebM C n near), .v (.ref l), .any, .any])
    (fun i _ => [(l, .lst ((ti i).map fun t => .d (dTie t)))]) (fun G => nx_inv () trivial) ?_ ?_
  · intro G a _ d hd _
    have ha : a < n := by have := (List.getElem?_eq_some_iff.mp hd).1; rw [rgD_len] at this; omega
    rw [rgD_get (by omega)] at hd
    cases hd
    have hrow : near[a]? = some (near.getD a []) := by rw [List.getD_eq_getElem?_getD, List.getElem?_eq_getElem (by omega)]; rfl
    have h0 : (0 : Int) + (a : Int) = (a : Int) := Int.zero_add _
    rw [h0]
    refine s_for (α := Unit) (js := [3]) (Src.list (ev_op (ev_near w (ev_var rfl rfl)) (ev_var rfl rfl) (rv_xL (atI_mapN dNs hrow)))) (fun d Δ => Δ.set 3 (.d d)) (fun _ _ => tg_name) (fun _ _ => True) (fun _ _ => [.p (WebM C n near), .v (.ref l), sN a, .any])
      (fun j _ => [(l, .lst ((ti a ++ (((near.getD a []).take j).filter fun b => decide (a < b)).map fun b => (a, b)).map fun t => .d (dTie t)))]) (fun G => nx_inv () trivial (hC := by simp)) ?_ ?_
    · intro G j _ d hd _
      rw [List.getElem?_map] at hd
      obtain ⟨b, hb, rfl⟩ : ∃ o, (near.getD a [])[j]? = some o ∧ dN o = d := by
        cases q : (near.getD a [])[j]? with
        | none => rw [q] at hd; cases hd
        | some o => rw [q] at hd; exact ⟨o, rfl, Option.some.inj hd⟩
      have et : ((near.getD a []).take (j + 1)).filter (fun b => decide (a < b)) = ((near.getD a []).take j).filter (fun b => decide (a < b)) ++ (if a < b then [b] else []) := by
        rw [take_succ hb, List.filter_append, List.filter_cons]
        by_cases c : a < b <;> simp [c]
      refine s_when (b := decide (a < b)) (evT_eq (et_B (ev_op (ev_var rfl rfl) (ev_var rfl rfl) rv_ib)) (by simp)) (fun c => ?_) (fun c => ?_)
      · have c : a < b := of_decide_eq_true c
        refine s_app (k := 0) rfl (ev_var rfl rfl) (ev_tup2 (ev_var rfl rfl) (ev_var rfl rfl)) (nx_inv () trivial (hC := ?_)) ?_
        · rw [et, if_pos c]; simp
        · have h1 : (ti a).length ≤ 16 * a := tiL_len _ _ _ fun x => by
            rw [List.length_map]
            refine Nat.le_trans (List.length_filter_le _ _) ?_
            rw [List.getD_eq_getElem?_getD]
            cases q : near[x]? with
            | none => simp
            | some r => exact (hnr r (List.mem_of_getElem? q)).1
          have h2 := List.length_filter_le (fun b => decide (a < b)) ((near.getD a []).take j)
          have h3 := List.length_take_le' j (near.getD a [])
          have h4 := (hnr _ (List.mem_of_getElem? hrow)).1
          rw [List.length_map, List.length_append, List.length_map]
          omega
      · have c : ¬ a < b := of_decide_eq_false c
        refine nx_inv () trivial (hC := ?_)
        rw [et, if_neg c, List.append_nil]
    · intro _ _
      refine nx_inv () trivial (hC := ?_)
      rw [List.length_map, List.take_length]
      show _ = [(l, Cd.lst (((List.range (a + 1)).flatMap _).map _))]
      rw [List.range_succ, List.flatMap_append]
      simp [ti]
  · intro _ _
    rw [rgD_len, Int.toNat_natCast]
    exact s_retN (k := 0) rfl (ev_var rfl rfl) hq (by simpa using hlf)
theorem pure_Web_beside (w : WebC K C) (h : sp_Web_beside K C vs H Q E) : t_Web_beside K C { nx := fun _ H' => Q .non H', rt := Q } (L2.start N_Web_beside vs) H := by
  refine enterN h fun F ss s hf ha hR hq => ?_
  obtain ⟨n, near, x, rfl, hl, hx, rfl⟩ := hR
  refine ⟨_, ha, ?_⟩
  show WP ⟨F, H, []⟩ [.p (WebM C n near), sN x] [] (t_Web_beside K C) _
  have hrow : near[x]? = some (near.getD x []) := by rw [List.getD_eq_getElem?_getD, List.getElem?_eq_getElem (by omega)]; rfl
  refine q_drop (ev_meth (ev_var rfl rfl) (fun F' v hv => ?_) (ea_cons (ev_var rfl rfl) ea_nil) (s := .d .none) fun σ H' F' hs => ⟨_, _, n, rfl, fun v hv => ?_, hasB_nat hx, rfl⟩) ?_
  · exact selfI hv
  · exact selfH hs hv
  · exact s_retE (evN_eq (evN_cb (ea_cons (ev_op (ev_near w (ev_var rfl rfl)) (ev_var rfl rfl) (rv_xL (atI_mapN dNs hrow))) ea_nil) rcN_listL) (by rw [List.map_map]; rfl)) hq
theorem pure_Web_tied (w : WebC K C) (h : sp_Web_tied K C vs H Q E) : t_Web_tied K C { nx := fun _ H' => Q .non H', rt := Q } (L2.start N_Web_tied vs) H := by
  refine enterD h fun F ss s hf ha hR hq => ?_
  obtain ⟨n, near, x, y, rfl, hl, hx, hy, rfl⟩ := hR
  refine ⟨_, ha, ?_⟩
  show WP ⟨F, H, []⟩ [.p (WebM C n near), sN x, sN y] [] (t_Web_tied K C) _
  have hrow : near[x]? = some (near.getD x []) := by rw [List.getD_eq_getElem?_getD, List.getElem?_eq_getElem (by omega)]; rfl
  refine q_drop (ev_meth (ev_var rfl rfl) (fun F' v hv => selfI hv) (ea_cons (ev_var rfl rfl) ea_nil) (s := .d .none) fun σ H' F' hs => ⟨_, _, n, rfl, fun v hv => selfH hs hv, hasB_nat hx, rfl⟩) ?_
  refine q_drop (ev_meth (ev_var rfl rfl) (fun F' v hv => selfI hv) (ea_cons (ev_var rfl rfl) ea_nil) (s := .d .none) fun σ H' F' hs => ⟨_, _, n, rfl, fun v hv => selfH hs hv, hasB_nat hy, rfl⟩) ?_
  exact s_ret (ev_op (ev_var rfl rfl) (ev_op (ev_near w (ev_var rfl rfl)) (ev_var rfl rfl) (rv_xL (atI_mapN dNs hrow))) rv_inN) hq
abbrev sNs (r : List Nat) : Sd := .d (dNs r)
theorem getD_of {near : List (List Nat)} {a : Nat} (h : a < near.length) : near[a]? = some (near.getD a []) := by rw [List.getD_eq_getElem?_getD, List.getElem?_eq_getElem h]; rfl
theorem tiesD {B : Base} {Δ : List Sd} {C' : Cs} {σ : L2.St} {H' F Hm : Hp} {ts : List Tie} (hs : St B Δ C' σ H' F) (ex : Ex H' Hm) (v : V) (h : SlV F v (.d (dTies ts))) : ∃ l xs, v = .ref l ∧ Hm l = some (.lst xs) ∧ RepA F xs (ts.map dTie) := by
  obtain ⟨a, xs, rfl, e, r⟩ := Rep.lst_inv h
  exact ⟨a, xs, rfl, ex _ _ (hs.fh _ _ e), r⟩
theorem tiesC {B : Base} {Δ : List Sd} {C' : Cs} {σ : L2.St} {H' F Hm : Hp} {ts : List Tie} {k : Nat} {l : Addr} (hs : St B Δ C' σ H' F) (ex : Ex H' Hm) (hc : C'[k]? = some (l, .lst (ts.map fun t => .d (dTie t)))) (v : V) (h : SlV F v (.v (.ref l))) : ∃ l xs, v = .ref l ∧ Hm l = some (.lst xs) ∧ RepA F xs (ts.map dTie) := by
  cases h
  obtain ⟨_, o, ho, xs, rfl, r⟩ := hs.cell hc
  have r' : SlA F xs ((ts.map dTie).map Sd.d) := by rw [List.map_map]; exact r
  exact ⟨l, xs, rfl, ex _ _ ho, r'.rep⟩
theorem pure_Web_init (w : WebC K C) (h : sp_Web_init K C vs H Q E) : t_Web_init K C { nx := fun _ H' => Q .non H', rt := Q } (L2.start N_Web_init vs) H := by
  obtain ⟨F, Hm, x, dx, ws, ss, m, rfl, hf, hfm, hx, hm, ho, ha, hR, hq⟩ := h
  obtain ⟨n, ts, sv, rfl, htv, h1, h16, h40, g, rfl⟩ := hR
  cases ha with | cons wn ha => cases ha with | cons wt ha =>
  cases ha
  obtain ⟨lt, xt, rfl, hlt, hxt⟩ := htv _ wt
  have ltx : lt ≠ x := fun z => by rw [z, hx] at hlt; cases hlt
  have xlen : xt.length = ts.length := by rw [hxt.length, List.length_map]
  have w0 : WP ⟨F, Hm, []⟩ [.v (.ref x), sN n, .v (.ref lt), .no, .no] [(x, .raw (.ins C dx []))] (t_Web_init K C) { nx := fun _ H' => Q .non H', rt := Q } := ?_
  · exact w0 _ _ ⟨F, St.startI (N := N_Web_init) hf hfm hx hm ho (ss := [sN n, .v (.ref lt)]) (.cons wn (.cons rfl .nil))⟩
  refine s_nevT (et_orF (et_nF (et_B (ev_call (ea_cons (ev_var rfl rfl) ea_nil) fun _ _ _ _ => ⟨dN n, rfl, rfl⟩)) rfl) rfl
    (et_nF (et_B (ev_chain (a := decide ((1 : Int) ≤ (n : Int))) (b := decide ((n : Int) ≤ 16)) ev_int (ev_var rfl rfl) rv_ib (fun _ => ev_int) (fun _ => rv_ib))) (by simp; omega))) rfl ?_
  refine s_nevT (et_orF (et_nF (et_B (ev_cb (ea_cons (ev_var rfl rfl) (ea_cons ev_cv ea_nil)) (rc_isiLA hlt (by simpa using ltx)))) rfl) rfl
    (et_B (ev_op (ev_cb (ea_cons (ev_var rfl rfl) ea_nil) (rc_lenA hlt (by simpa using ltx))) ev_int rv_ib))) (by simp; omega) ?_
  refine q_fldC (k := 0) rfl (ev_dvI (ev_var rfl rfl)) (ev_var rfl rfl) w.cl w.nM (by decide) ?_
  refine q_fldN (k := 0) rfl (evN_lcA (js := [3]) (fun d Δ => Δ.set 3 (.d d)) (fun _ => .d (.list [])) (Src.r1 (ea_cons (ev_var rfl rfl) ea_nil)) (fun _ _ => tg_name) (by simp) (fun B' d _ _ => ev_lst0) (by rw [rgD_len]; omega)) (fun C' => ev_var rfl rfl) w.cl w.nN (by show 1 < 1000; decide) fun l hl => ?_
  have hl : Hm l = none := hl
  have e1 : putF "near" (.ref l) (putF "many" (.int (n : Int)) []) = webF n l := by
    show (if ("many" : Str) = "near" then _ else (("many" : Str), V.int (n : Int)) :: putF "near" (.ref l) []) = _
    rw [if_neg mn_]; rfl
  have e2 : (rgD 0 (n : Int).toNat).map (fun _ => Sd.d (.list [])) = (nearOf n (ts.take 0)).map sNs := by
    show _ = (List.replicate n []).map sNs
    rw [List.map_replicate]
    have h2 : (rgD 0 (n : Int).toNat).length = n := by rw [rgD_len, Int.toNat_natCast]
    rw [List.map_const', h2]; rfl
  rw [e2]
  show WP ⟨F, Hm, []⟩ [.v (.ref x), sN n, (.v (.ref lt)), .no, .no] [(l, .lst ((nearOf n (ts.take 0)).map sNs)), (x, .raw (.ins C dx (putF "near" (.ref l) (putF "many" (.int (n : Int)) []))))] _ _
  rw [e1]
  have ltl : lt ≠ l := fun z => by rw [z, hl] at hlt; cases hlt
  refine s_forA (α := Unit) dTie hlt hxt (ev_var rfl rfl) (fun _ _ => True) (fun _ _ => [.v (.ref x), sN n, (.v (.ref lt)), .no, .any])
    (fun i _ => [(l, .lst ((nearOf n (ts.take i)).map sNs)), (x, .raw (.ins C dx (webF n l)))]) (fun _ _ _ => by simpa using ⟨ltl, ltx⟩) (nx_inv () trivial) (by simpa using ⟨ltl, ltx⟩) ?_ ?_
  · intro i _ t ht _
    have hg := g.rng t (List.mem_of_getElem? ht)
    have gi : Good n (ts.take i) := ⟨fun s hs => g.rng s (List.mem_of_mem_take hs), g.pw.sublist (List.take_sublist i ts)⟩
    have hlen : (nearOf n (ts.take i)).length = n := nearOf_len _ _
    have fr : ∀ s ∈ ts.take i, Fresh s t := by
      intro s hs
      have hp := g.pw
      rw [← List.take_append_drop (i + 1) ts, take_succ ht] at hp
      exact (List.pairwise_append.mp (List.pairwise_append.mp hp).1).2.2 s hs t List.mem_cons_self
    have nin : t.2 ∉ (nearOf n (ts.take i)).getD t.1 [] := by
      rw [nearOf_mem n _ (fun s hs => ⟨(gi.rng s hs).1, (gi.rng s hs).2.1⟩)]
      rintro (h | h)
      · exact (fr _ h).1 rfl
      · exact (fr _ h).2 rfl
    have z0 : ∀ {C'}, Ev ⟨F, Hm, []⟩ [.v (.ref x), sN n, (.v (.ref lt)), .no, .d (dTie t)] C' (tOp (rIx K) (tVar 4) (tC (.int 0))) (sN t.1) := ev_op (ev_var rfl rfl) ev_int (rv_xT (atI_nat (j := 0) rfl))
    have z1 : ∀ {C'}, Ev ⟨F, Hm, []⟩ [.v (.ref x), sN n, (.v (.ref lt)), .no, .d (dTie t)] C' (tOp (rIx K) (tVar 4) (tC (.int 1))) (sN t.2) := ev_op (ev_var rfl rfl) ev_int (rv_xT (atI_nat (j := 1) rfl))
    have zn : ∀ {c}, Ev ⟨F, Hm, []⟩ [.v (.ref x), sN n, (.v (.ref lt)), .no, .d (dTie t)] [(l, c), (x, .raw (.ins C dx (webF n l)))] (tFld K (tVar 0) "near") (.v (.ref l)) := ev_fldC (k := 1) rfl (ev_var rfl rfl) w.cl w.nN (webF_near n l)
    show WP ⟨F, Hm, []⟩ [.v (.ref x), sN n, (.v (.ref lt)), .no, .d (dTie t)] _ _ _
    refine s_nevT (et_orF (et_nF (et_B (ev_cb (ea_cons (ev_var rfl rfl) (ea_cons ev_cv ea_nil)) (rc_isi kit_tt))) rfl) rfl (et_orF (et_B (ev_op (ev_cb (ea_cons (ev_var rfl rfl) ea_nil) rc_lenT) ev_int rv_neI)) rfl
      (et_orF (et_nF (et_B (ev_methC (k := 1) rfl (ev_var rfl rfl) (webF_no n l (by decide +kernel) (by decide +kernel)) (ea_cons z0 ea_nil) (s := .d (.bool (hasB n (dN t.1)))) fun σ H' F' hs => ⟨_, _, n, rfl, fun v e => ?_, rfl⟩)) (hasB_nat hg.1)) rfl
      (et_nF (et_B (ev_methC (k := 1) rfl (ev_var rfl rfl) (webF_no n l (by decide +kernel) (by decide +kernel)) (ea_cons z1 ea_nil) (s := .d (.bool (hasB n (dN t.2)))) fun σ H' F' hs => ⟨_, _, n, rfl, fun v e => ?_, rfl⟩)) (hasB_nat hg.2.1))))) rfl ?_
    · cases e
      obtain ⟨_, o, ho, rfl, _⟩ := hs.cell (k := 1) rfl
      exact ⟨x, dx, _, rfl, ho, webF_many n l, webF_no n l (by decide +kernel) (by decide +kernel)⟩
    · cases e
      obtain ⟨_, o, ho, rfl, _⟩ := hs.cell (k := 1) rfl
      exact ⟨x, dx, _, rfl, ho, webF_many n l, webF_no n l (by decide +kernel) (by decide +kernel)⟩
    refine s_nevT (et_orF (et_B (ev_op z0 z1 rv_eqI)) (by have := hg.2.2; simp; omega) (et_B (ev_op z1 (ev_op zn z0 (rv_xC 0 rfl (atI_mapN sNs (getD_of (by rw [hlen]; exact hg.1))))) rv_inN))) (by simpa using nin) ?_
    have hset : ∀ (near : List (List Nat)) (a b : Nat), a < near.length → near.length = n → ((near.map sNs).set a (.d (.list ((sortI ((near.getD a []).map (fun k : Nat => (k : Int)) ++ [(b : Int)])).map PyData.int)))) = (addTo near a b).map sNs := by
      intro near a b ha hn
      unfold addTo
      rw [List.map_set]
      have : (near.getD a []).map (fun k : Nat => (k : Int)) ++ [(b : Int)] = ((near.getD a []) ++ [b]).map (fun k : Nat => (k : Int)) := by simp
      rw [this, sortI_nat, List.map_map]; rfl
    have hrow16 : ∀ a, ((nearOf n (ts.take i)).getD a []).length ≤ 16 := by
      intro a
      have ok := nearOf_ok gi h16
      rw [List.getD_eq_getElem?_getD]
      cases q : (nearOf n (ts.take i))[a]? with
      | none => simp
      | some r => exact (ok.2 r (List.mem_of_getElem? q)).1
    have hsrt : ∀ {C' : Cs} {tA tB : TE} {row : List Nat} {b : Nat}, row.length ≤ 17 → Ev ⟨F, Hm, []⟩ [.v (.ref x), sN n, (.v (.ref lt)), .no, .d (dTie t)] C' tA (.d (dNs row)) → Ev ⟨F, Hm, []⟩ [.v (.ref x), sN n, (.v (.ref lt)), .no, .d (dTie t)] C' tB (sN b) →
        Ev ⟨F, Hm, []⟩ [.v (.ref x), sN n, (.v (.ref lt)), .no, .d (dTie t)] C' (tCB (rSortedI K) (tCons (tOp rCat tA (tLst (tCons tB tNil))) tNil)) (.d (.list ((sortI (row.map (fun k : Nat => (k : Int)) ++ [(b : Int)])).map PyData.int))) := by
      intro C' tA tB row b hz hA hB
      refine ev_of (evN_cb (ea_cons (ev_eq (ev_of (evN_op hA (ev_lst1 hB) (rv_cat (by simp; omega)))) ?_) ea_nil) rcN_sorted)
      simp
    have l1 : t.1 < (nearOf n (ts.take i)).length := by rw [hlen]; exact hg.1
    have l2 : t.2 < (addTo (nearOf n (ts.take i)) t.1 t.2).length := by rw [addTo_len, hlen]; exact hg.2.1
    have r1 := hrow16 t.1
    have r2 : ((addTo (nearOf n (ts.take i)) t.1 t.2).getD t.2 []).length ≤ 17 := by
      rw [addTo_get _ _ _ _ l1, if_neg (fun z => hg.2.2 z.symm)]
      have := hrow16 t.2; omega
    refine q_setL (k := 0) (j := t.1) rfl (hsrt (Nat.le_succ_of_le r1) (ev_op zn z0 (rv_xC 0 rfl (atI_mapN sNs (getD_of l1)))) z1) zn z0 (by rw [List.length_map]; exact ixN_nat l1) ?_
    rw [hset _ _ _ l1 hlen]
    refine s_setL (k := 0) (j := t.2) rfl (hsrt r2 (ev_op zn z1 (rv_xC 0 rfl (atI_mapN sNs (getD_of l2)))) z0) zn z1 (by rw [List.length_map]; exact ixN_nat l2) ?_
    rw [hset _ _ _ l2 (by rw [addTo_len, hlen])]
    refine nx_inv () trivial (hC := ?_)
    rw [take_succ ht, nearOf_snoc]; rfl
  · intro _ _
    rintro σ H' ⟨F', hs⟩
    rw [List.take_length] at hs
    have hs : St ⟨F, Hm, []⟩ [.v (.ref x), sN n, (.v (.ref lt)), .no, .any] [(l, .lst (((nearOf n ts).map dNs).map Sd.d)), (x, .raw (.ins C dx (webF n l)))] σ H' F' := by rw [List.map_map]; exact hs
    obtain ⟨F2, e2, hs2, r2⟩ := hs.frzD (k := 0) rfl hl
    obtain ⟨o, h3, ⟨rfl, _⟩, e3, hs3⟩ := hs2.frz (k := 0) rfl hx
    exact hq _ H' (hs3.ext (by simp)) ⟨x, dx, l, rfl, upd_same, Rep.mono e3 _ _ r2⟩
end
end FW

set_option Elab.async false
set_option linter.all false
set_option maxRecDepth 100000
set_option maxHeartbeats 1000000
set_option autoImplicit false
/-! data by plain functions: == and in told by plain equality -/
namespace FQ
open PySem L2 FD FW
open Evl (Ex)
structure Shp (k : Nat) (d : PyData) : Prop where
  lay : d.canLay0 = true
  dep : d.depth ≤ k
theorem Shp.int (i : Int) : Shp 1 (.int i) := ⟨by simp [PyData.canLay0], by simp [PyData.depth]⟩
theorem Shp.bl (i : Bool) : Shp 1 (.bool i) := ⟨by simp [PyData.canLay0], by simp [PyData.depth]⟩
theorem Shp.non : Shp 1 .none := ⟨by simp [PyData.canLay0], by simp [PyData.depth]⟩
theorem Shp.mono {k m : Nat} {d : PyData} (h : Shp k d) (e : k ≤ m) : Shp m d := ⟨h.lay, Nat.le_trans h.dep e⟩
theorem shpAll {k : Nat} : ∀ {ds : List PyData}, (∀ d ∈ ds, Shp k d) → PyData.canLayAll0 ds = true ∧ PyData.depthAll ds ≤ k
  | [], _ => ⟨by simp [PyData.canLayAll0], by simp [PyData.depthAll]⟩
  | d :: ds, h => by
    obtain ⟨h1, h2⟩ := shpAll (ds := ds) fun x hx => h x (List.mem_cons_of_mem _ hx)
    have h0 := h d List.mem_cons_self
    refine ⟨by simp [PyData.canLayAll0, h0.lay, h1], ?_⟩
    have := h0.dep
    simp [PyData.depthAll]; omega
theorem Shp.list {k : Nat} {ds : List PyData} (h : ∀ d ∈ ds, Shp k d) : Shp (k + 1) (.list ds) := by
  obtain ⟨h1, h2⟩ := shpAll h
  exact ⟨by simp [PyData.canLay0, h1], by simp [PyData.depth]; omega⟩
theorem Shp.tuple {k : Nat} {ds : List PyData} (h : ∀ d ∈ ds, Shp k d) : Shp (k + 1) (.tuple ds) := by
  obtain ⟨h1, h2⟩ := shpAll h
  exact ⟨by simp [PyData.canLay0, h1], by simp [PyData.depth]; omega⟩
theorem Shp.shaped {k : Nat} {d : PyData} (h : Shp k d) (hk : k ≤ 64 := by decide) : SeqAt.shaped d = true := by
  show (d.canLay0 && decide (d.depth ≤ 64)) = true
  rw [h.lay]; simp; exact Nat.le_trans h.dep hk
theorem Shp.map {α : Type} {f : α → PyData} {k : Nat} (h : ∀ a, Shp k (f a)) (as : List α) : Shp (k + 1) (.list (as.map f)) := Shp.list fun d hd => by
  obtain ⟨a, _, rfl⟩ := List.mem_map.mp hd; exact h a
theorem shp_ns (ns : List Nat) : Shp 2 (dNs ns) := Shp.map (f := dN) (fun a => Shp.int _) ns
theorem shp_near (ns : List (List Nat)) : Shp 3 (dNear ns) := Shp.map (f := dNs) shp_ns ns
theorem shp_tie (t : Tie) : Shp 2 (dTie t) := Shp.tuple fun d hd => by
  rcases List.mem_cons.mp hd with rfl | hd
  · exact Shp.int _
  · rcases List.mem_cons.mp hd with rfl | hd
    · exact Shp.int _
    · cases hd
theorem shp_ties (ts : List Tie) : Shp 3 (dTies ts) := Shp.map (f := dTie) shp_tie ts
/-- == of what f tells is equality -/
def Faith {α : Type} [DecidableEq α] (f : α → PyData) : Prop := ∀ a b, PyData.eqv (f a) (f b) = decide (a = b)
theorem faith_int : Faith PyData.int := fun a b => by
  simp only [PyData.eqv]
  by_cases h : a = b <;> simp [h]
theorem faith_n : Faith dN := fun a b => by
  show PyData.eqv (.int a) (.int b) = _
  rw [faith_int]
  by_cases h : a = b
  · simp [h]
  · have h' : ¬ (a : Int) = b := by omega
    simp [h, h']
theorem faithAll {α : Type} [DecidableEq α] {f : α → PyData} (h : Faith f) : ∀ as bs : List α, PyData.eqvAll (as.map f) (bs.map f) = decide (as = bs)
  | [], [] => by simp [PyData.eqvAll]
  | [], b :: bs => by simp [PyData.eqvAll]
  | a :: as, [] => by simp [PyData.eqvAll]
  | a :: as, b :: bs => by
    rw [List.map_cons, List.map_cons]
    simp only [PyData.eqvAll]
    rw [h, faithAll h as bs]
    by_cases e1 : a = b <;> by_cases e2 : as = bs <;> simp [e1, e2]
theorem Faith.list {α : Type} [DecidableEq α] {f : α → PyData} (h : Faith f) : Faith fun as : List α => PyData.list (as.map f) := fun as bs => by
  simp only [PyData.eqv]; exact faithAll h as bs
theorem Faith.tup2 {α : Type} [DecidableEq α] {f : α → PyData} (h : Faith f) : Faith fun t : α × α => PyData.tuple [f t.1, f t.2] := fun s t => by
  simp only [PyData.eqv, PyData.eqvAll]
  rw [h, h]
  obtain ⟨a, b⟩ := s
  obtain ⟨c, d⟩ := t
  by_cases e1 : a = c <;> by_cases e2 : b = d <;> simp [e1, e2]
theorem faith_ns : Faith dNs := faith_n.list
theorem faith_near : Faith dNear := faith_ns.list
theorem faith_tie : Faith dTie := faith_n.tup2
theorem faith_ties : Faith dTies := faith_tie.list
theorem Faith.any {α : Type} [DecidableEq α] {f : α → PyData} (h : Faith f) (a : α) (as : List α) : ((as.map f).any fun z => PyData.eqv z (f a)) = decide (a ∈ as) := by
  induction as with
  | nil => simp
  | cons b as ih =>
    rw [List.map_cons, List.any_cons, ih, h]
    by_cases e1 : b = a
    · subst e1; simp
    · have : ¬ a = b := fun z => e1 z.symm
      by_cases e2 : a ∈ as <;> simp [e1, e2, this]
section
variable {B : Base} {Δ : List Sd} {C : Cs} {K : PySem.W.Frag} {α : Type} [DecidableEq α] {f : α → PyData}
theorem dec_any {p : Prop} (i j : Decidable p) : @decide p i = @decide p j := by congr
theorem rv_eqG (h : Faith f) {a b : α} [i : Decidable (a = b)] (sa : SeqAt.shaped (f a) = true) (sb : SeqAt.shaped (f b) = true) : RV B Δ C (rEqD K) (.d (f a)) (.d (f b)) (.d (.bool (decide (a = b)))) := ((h a b).trans (dec_any _ i)) ▸ rv_eqD sa sb
theorem rv_neG (h : Faith f) {a b : α} [i : Decidable (a = b)] (sa : SeqAt.shaped (f a) = true) (sb : SeqAt.shaped (f b) = true) : RV B Δ C (rNeD K) (.d (f a)) (.d (f b)) (.d (.bool (!decide (a = b)))) := ((h a b).trans (dec_any _ i)) ▸ rv_neD sa sb
theorem rv_inG (h : Faith f) {a : α} {as : List α} [i : Decidable (a ∈ as)] (sa : SeqAt.shaped (f a) = true) (sb : SeqAt.shaped (.list (as.map f)) = true) : RV B Δ C (rInD K) (.d (f a)) (.d (.list (as.map f))) (.d (.bool (decide (a ∈ as)))) := ((h.any a as).trans (dec_any _ i)) ▸ rv_inD sa sb
theorem rv_niG (h : Faith f) {a : α} {as : List α} [i : Decidable (a ∈ as)] (sa : SeqAt.shaped (f a) = true) (sb : SeqAt.shaped (.list (as.map f)) = true) : RV B Δ C (rNotInD K) (.d (f a)) (.d (.list (as.map f))) (.d (.bool (!decide (a ∈ as)))) := ((h.any a as).trans (dec_any _ i)) ▸ rv_niD sa sb
theorem rv_niGC (h : Faith f) {k : Nat} {l : Addr} {a : α} {as : List α} [i : Decidable (a ∈ as)] (hc : C[k]? = some (l, .lst (as.map fun a => Sd.d (f a)))) (sa : SeqAt.shaped (f a) = true) (sb : SeqAt.shaped (.list (as.map f)) = true) : RV B Δ C (rNotInD K) (.d (f a)) (.v (.ref l)) (.d (.bool (!decide (a ∈ as)))) := ((h.any a as).trans (dec_any _ i)) ▸ rv_niDC (k := k) (by rw [List.map_map]; exact hc) sa sb
theorem rv_inGC (h : Faith f) {k : Nat} {l : Addr} {a : α} {as : List α} [i : Decidable (a ∈ as)] (hc : C[k]? = some (l, .lst (as.map fun a => Sd.d (f a)))) (sa : SeqAt.shaped (f a) = true) (sb : SeqAt.shaped (.list (as.map f)) = true) : RV B Δ C (rInD K) (.d (f a)) (.v (.ref l)) (.d (.bool (decide (a ∈ as)))) := ((h.any a as).trans (dec_any _ i)) ▸ rv_inDC (k := k) (by rw [List.map_map]; exact hc) sa sb
theorem rv_eqWG (h : Faith f) {a b : α} {s1 s2 : Sd} [i : Decidable (a = b)] (h1 : Now K B Δ C s1 (f a)) (h2 : Now K B Δ C s2 (f b)) (sa : SeqAt.shaped (f a) = true) (sb : SeqAt.shaped (f b) = true) : RV B Δ C (rEqD K) s1 s2 (.d (.bool (decide (a = b)))) := ((h a b).trans (dec_any _ i)) ▸ rv_eqW h1 h2 sa sb
theorem rv_neWG (h : Faith f) {a b : α} {s1 s2 : Sd} [i : Decidable (a = b)] (h1 : Now K B Δ C s1 (f a)) (h2 : Now K B Δ C s2 (f b)) (sa : SeqAt.shaped (f a) = true) (sb : SeqAt.shaped (f b) = true) : RV B Δ C (rNeD K) s1 s2 (.d (.bool (!decide (a = b)))) := ((h a b).trans (dec_any _ i)) ▸ rv_neW h1 h2 sa sb
end
theorem sh_tie (t : Tie) : SeqAt.shaped (dTie t) = true := (shp_tie t).shaped
theorem sh_ties (t : List Tie) : SeqAt.shaped (.list (t.map dTie)) = true := (shp_ties t).shaped
theorem sh_ns (t : List Nat) : SeqAt.shaped (dNs t) = true := (shp_ns t).shaped
theorem sh_near (t : List (List Nat)) : SeqAt.shaped (dNear t) = true := (shp_near t).shaped

/-! ### the law's own readers -/
/-- a cell of the script, 0 behind its end -/
def cellZ (ns : List Int) (k : Nat) : Int := ns.getD k 0
def R_cell (K : PySem.W.Frag) : Hp → Hp → List Sd → Sd → Prop := fun _ _ ss s => ∃ ns k, ss = [.p (Scr K ns), sN k] ∧ s = .d (.int (cellZ ns k))
def sp_l_cell_at (K : PySem.W.Frag) (C : Addr) : Sp := SpD (R_cell K)
def sp_l_whole (K : PySem.W.Frag) (C : Addr) : Sp := SpD R_whole
def N_l_cell_at : List Str := ["_law_script", "_law_k"]
def t_l_cell_at (K : PySem.W.Frag) (C : Addr) : TS :=
  (tSeq (tIfS (tTest (tOp (rI0 fun i j => .bl (decide (i < j))) (tVar 1) (tCB (xLen K) (tCons (tVar 0) tNil)))) (tRet (tOp (rIx K) (tVar 0) (tVar 1))) tNext)
  (tRet (tC (.int 0))))
def N_l_whole : List Str := ["_law_seen"]
def t_l_whole (K : PySem.W.Frag) (C : Addr) : TS :=
  (tRet (tAndV (tCB (rIsi K) (tCons (tVar 0) (tCons (tC (.ty "int")) tNil))) (tNotV (tCB (rIsi K) (tCons (tVar 0) (tCons (tC (.ty "bool")) tNil))))))
section
variable {K : PySem.W.Frag} {C : Addr} {vs : List V} {H : Hp} {Q : VK} {E : XK}
theorem pure_l_whole (h : sp_l_whole K C vs H Q E) : t_l_whole K C { nx := fun _ H' => Q .non H', rt := Q } (L2.start N_l_whole vs) H := pure_is_whole (K := K) (C := C) (E := E) h
theorem pure_l_cell_at (h : sp_l_cell_at K C vs H Q E) : t_l_cell_at K C { nx := fun _ H' => Q .non H', rt := Q } (L2.start N_l_cell_at vs) H := by
  refine enterD h fun F ss s hf ha hR hq => ?_
  obtain ⟨ns, k, rfl, rfl⟩ := hR
  refine ⟨_, ha, ?_⟩
  show WP ⟨F, H, []⟩ [.p (Scr K ns), sN k] [] (t_l_cell_at K C) _
  refine q_when (b := decide (k < ns.length)) (evT_eq (et_B (ev_op (ev_var rfl rfl) (ev_cb (ea_cons (ev_var rfl rfl) ea_nil) rc_lenS) rv_ib)) (by simp)) (fun c => ?_) (fun c => ?_)
  · have c : k < ns.length := of_decide_eq_true c
    refine s_ret (ev_op (ev_var rfl rfl) (ev_var rfl rfl) (rv_xS (n := cellZ ns k) (atI_nat ?_))) hq
    unfold cellZ; rw [List.getD_eq_getElem?_getD, List.getElem?_eq_getElem c]; rfl
  · have c : ¬ k < ns.length := of_decide_eq_false c
    have e : cellZ ns k = 0 := by unfold cellZ; rw [List.getD_eq_getElem?_getD, List.getElem?_eq_none (by omega)]; rfl
    rw [e] at hq
    exact s_ret ev_int hq
end

/-! ### ties drawn cell by cell -/
def tieOf (n : Nat) (c : Int) : Tie := ((c % n).toNat, ((c % n + 1 + c / n % max 1 ((n : Int) - 1)) % n).toNat)
def addCell (n : Nat) (made : List Tie) (c : Int) : List Tie :=
  if (tieOf n c).1 ≠ (tieOf n c).2 ∧ tieOf n c ∉ made ∧ ((tieOf n c).2, (tieOf n c).1) ∉ made then made ++ [tieOf n c] else made
def tiesL (n : Nat) (made : List Tie) (cells : List Int) : List Tie := cells.foldl (addCell n) made
theorem tieOf_rng {n : Nat} (hn : 0 < n) (c : Int) : (tieOf n c).1 < n ∧ (tieOf n c).2 < n := by
  have h1 := Int.emod_nonneg c (show (n : Int) ≠ 0 by omega)
  have h2 := Int.emod_lt_of_pos c (show (0 : Int) < n by omega)
  have h3 := Int.emod_nonneg (c % n + 1 + c / n % max 1 ((n : Int) - 1)) (show (n : Int) ≠ 0 by omega)
  have h4 := Int.emod_lt_of_pos (c % n + 1 + c / n % max 1 ((n : Int) - 1)) (show (0 : Int) < n by omega)
  unfold tieOf
  constructor
  · show (c % n).toNat < n; omega
  · show ((c % n + 1 + c / n % max 1 ((n : Int) - 1)) % n).toNat < n; omega
theorem Good.nil (n : Nat) : Good n [] := ⟨fun t h => (by cases h), .nil⟩
theorem addCell_good {n : Nat} (hn : 0 < n) {made : List Tie} (g : Good n made) (c : Int) : Good n (addCell n made c) ∧ (addCell n made c).length ≤ made.length + 1 := by
  unfold addCell
  split
  · rename_i h
    refine ⟨⟨fun t ht => ?_, ?_⟩, by simp⟩
    · rcases List.mem_append.mp ht with ht | ht
      · exact g.rng t ht
      · have ht : t = tieOf n c := by simpa using ht
        subst ht
        exact ⟨(tieOf_rng hn c).1, (tieOf_rng hn c).2, h.1⟩
    · rw [List.pairwise_append]
      refine ⟨g.pw, by simp, fun s hs t ht => ?_⟩
      have ht : t = tieOf n c := by simpa using ht
      subst ht
      exact ⟨fun e => h.2.1 (e ▸ hs), fun e => h.2.2 (e ▸ hs)⟩
  · exact ⟨g, Nat.le_succ _⟩
theorem tiesL_good {n : Nat} (hn : 0 < n) : ∀ (cells : List Int) (made : List Tie), Good n made → Good n (tiesL n made cells) ∧ (tiesL n made cells).length ≤ made.length + cells.length
  | [], made, g => ⟨g, Nat.le_refl _⟩
  | c :: cells, made, g => by
    obtain ⟨g1, l1⟩ := addCell_good hn g c
    obtain ⟨g2, l2⟩ := tiesL_good hn cells _ g1
    refine ⟨g2, Nat.le_trans l2 ?_⟩
    simp; omega
theorem tiesL_snoc (n : Nat) (made : List Tie) (cells : List Int) (c : Int) : tiesL n made (cells ++ [c]) = addCell n (tiesL n made cells) c := by unfold tiesL; rw [List.foldl_append]; rfl
/-- one turn: i the number of points, m the list made, c the cell, o and p the two points -/
def tTie (K : PySem.W.Frag) (i m c o p : Nat) : TS :=
  (tSeq (tAsg (tOp (rI (fun _ j => 0 < j) fun i j => .int (i % j)) (tVar c) (tVar i)) (gName o))
  (tSeq (tAsg (tOp (rI (fun _ j => 0 < j) fun i j => .int (i % j)) (tOp (rI0 fun i j => .int (i + j)) (tOp (rI0 fun i j => .int (i + j)) (tVar o) (tC (.int 1))) (tOp (rI (fun _ j => 0 < j) fun i j => .int (i % j)) (tOp (rI CDiv fun i j => .int (i / j)) (tVar c) (tVar i)) (tCB xMax2 (tCons (tC (.int 1)) (tCons (tOp (rI0 fun i j => .int (i - j)) (tVar i) (tC (.int 1))) tNil))))) (tVar i)) (gName p))
  (tIfS (tAnd (tB (tOp rNe (tVar o) (tVar p))) (tAnd (tB (tOp (rNotInD K) (tTup (tCons (tVar o) (tCons (tVar p) tNil))) (tVar m))) (tB (tOp (rNotInD K) (tTup (tCons (tVar p) (tCons (tVar o) tNil))) (tVar m))))) (tDrop (tBM K "list" rAppend (tVar m) (tCons (tTup (tCons (tVar o) (tCons (tVar p) tNil))) tNil))) tNext)))
abbrev sTie (t : Tie) : Sd := .d (dTie t)
theorem wp_tie {B : Base} {Δ : List Sd} {C : Cs} {K : PySem.W.Frag} {D : Ends} {i m c o p k n : Nat} {l : Addr} {made : List Tie} {z : Int} (hn : 0 < n) (hn2 : n ≤ 16) (hi : Δ[i]? = some (sN n)) (hm : Δ[m]? = some (.v (.ref l))) (hz : Δ[c]? = some (.d (.int z))) (hl : C[k]? = some (l, .lst (made.map sTie))) (hlen : made.length ≤ 1000)
    (d : [i, m, c, o, p].Nodup) (ho : o < Δ.length) (hp : p < Δ.length)
    (q : Nx B ((Δ.set o (sN (tieOf n z).1)).set p (sN (tieOf n z).2)) (C.set k (l, .lst ((addCell n made z).map sTie))) D.nx) : WP B Δ C (tTie K i m c o p) D := by
  have h1 := Int.emod_nonneg z (show (n : Int) ≠ 0 by omega)
  have h3 := Int.emod_nonneg (z % n + 1 + z / n % max 1 ((n : Int) - 1)) (show (n : Int) ≠ 0 by omega)
  have e1 : ((tieOf n z).1 : Int) = z % n := by show ((z % n).toNat : Int) = _; omega
  have e2 : ((tieOf n z).2 : Int) = (z % n + 1 + z / n % max 1 ((n : Int) - 1)) % n := by show (((z % n + 1 + z / n % max 1 ((n : Int) - 1)) % n).toNat : Int) = _; omega
  simp only [List.nodup_cons, List.mem_cons, List.not_mem_nil, or_false, not_or] at d
  obtain ⟨⟨d1, d2, d3, d4⟩, ⟨d5, d6, d7⟩, ⟨d8, d9⟩, d10, _⟩ := d
  refine q_asg (s := sN (tieOf n z).1) (ev_eq (ev_op (ev_var hz rfl) (ev_var hi rfl) (rv_iC (P := fun _ j => 0 < j) (by omega))) (by rw [show (sN (tieOf n z).1) = .d (.int ((tieOf n z).1 : Int)) from rfl, e1])) ?_
  have o1 : (Δ.set o (sN (tieOf n z).1))[o]? = some (sN (tieOf n z).1) := List.getElem?_set_self ho
  have o2 : ∀ j, j ≠ o → (Δ.set o (sN (tieOf n z).1))[j]? = Δ[j]? := fun j hj => List.getElem?_set_ne (Ne.symm hj)
  refine q_asg (s := sN (tieOf n z).2) (ev_eq (ev_op (ev_op (ev_op (ev_var o1 rfl) ev_int rv_ii) (ev_op (ev_op (ev_var ((o2 c d8).trans hz) rfl) (ev_var ((o2 i d3).trans hi) rfl) (rv_iC (P := CDiv) ⟨by omega, by omega⟩))
    (ev_cb (ea_cons ev_int (ea_cons (ev_op (ev_var ((o2 i d3).trans hi) rfl) ev_int rv_ii) ea_nil)) rc_max2) (rv_iC (P := fun _ j => 0 < j) (by omega))) rv_ii) (ev_var ((o2 i d3).trans hi) rfl) (rv_iC (P := fun _ j => 0 < j) (by omega))) ?_) ?_
  · rw [show (sN (tieOf n z).2) = .d (.int ((tieOf n z).2 : Int)) from rfl, e2, e1]
  have p0 : ((Δ.set o (sN (tieOf n z).1)).set p (sN (tieOf n z).2))[o]? = some (sN (tieOf n z).1) := by rw [List.getElem?_set_ne (Ne.symm d10)]; exact o1
  have p1 : ((Δ.set o (sN (tieOf n z).1)).set p (sN (tieOf n z).2))[p]? = some (sN (tieOf n z).2) := List.getElem?_set_self (by rw [List.length_set]; exact hp)
  have pm : ((Δ.set o (sN (tieOf n z).1)).set p (sN (tieOf n z).2))[m]? = some (.v (.ref l)) := by rw [List.getElem?_set_ne (Ne.symm d7), List.getElem?_set_ne (Ne.symm d6)]; exact hm
  refine s_when (b := decide ((tieOf n z).1 ≠ (tieOf n z).2 ∧ tieOf n z ∉ made ∧ ((tieOf n z).2, (tieOf n z).1) ∉ made)) (evT_eq (et_and (et_B (ev_op (ev_var p0 rfl) (ev_var p1 rfl) rv_neI)) fun _ => et_and (et_B (ev_op (ev_tup2 (ev_var p0 rfl) (ev_var p1 rfl)) (ev_var pm rfl) (rv_niGC faith_tie (k := k) (a := tieOf n z) hl (sh_tie _) (sh_ties _)))) fun _ =>
    et_B (ev_op (ev_tup2 (ev_var p1 rfl) (ev_var p0 rfl)) (ev_var pm rfl) (rv_niGC faith_tie (k := k) (a := ((tieOf n z).2, (tieOf n z).1)) hl (sh_tie _) (sh_ties _)))) ?_) (fun b => ?_) (fun b => ?_)
  · by_cases c1 : (tieOf n z).1 = (tieOf n z).2
    · simp [c1]
    · have c1' : ¬ ((tieOf n z).1 : Int) = (tieOf n z).2 := by omega
      by_cases c2 : tieOf n z ∈ made <;> by_cases c3 : ((tieOf n z).2, (tieOf n z).1) ∈ made <;> simp [c1, c1', c2, c3]
  · have b := of_decide_eq_true b
    refine s_app hl (ev_var pm rfl) (ev_tup2 (ev_var p0 rfl) (ev_var p1 rfl)) ?_ (by rw [List.length_map]; omega)
    have e : addCell n made z = made ++ [tieOf n z] := if_pos b
    rw [e] at q
    rw [List.map_append] at q
    exact q
  · have b := of_decide_eq_false b
    have e : addCell n made z = made := if_neg b
    rw [e] at q
    have e3 : C.set k (l, .lst (made.map sTie)) = C := by
      have hk := (List.getElem?_eq_some_iff.mp hl)
      obtain ⟨hk1, hk2⟩ := hk
      rw [← hk2, List.set_getElem_self]
    rw [e3] at q
    exact q
end FQ

set_option Elab.async false
set_option linter.all false
set_option maxRecDepth 100000
set_option maxHeartbeats 1000000
set_option autoImplicit false
/-! what several of the laws have alike -/
namespace FA
open PySem L2 FD FW FQ FX
open Evl (Ex)
/-! ### how many points, which ties -/
def manyA (ns : List Int) : Nat := (if cellZ ns 0 % 6 = 5 then 10 + cellZ ns 0 / 6 % 7 else 1 + cellZ ns 0 / 6 % 9).toNat
theorem manyA_rng (ns : List Int) : 1 ≤ manyA ns ∧ manyA ns ≤ 16 := by
  unfold manyA
  split <;> omega
def R_many (K : PySem.W.Frag) : Hp → Hp → List Sd → Sd → Prop := fun _ _ ss s => ∃ ns, ss = [.p (Scr K ns)] ∧ s = sN (manyA ns)
def sp_l_many (K : PySem.W.Frag) (C : Addr) : Sp := SpD (R_many K)
def N_l_many : List Str := ["_law_script"]
def t_l_many (K : PySem.W.Frag) (C : Addr) : TS :=
  (tSeq (tIfS (tTest (tOp rEq (tOp (rI (fun _ j => 0 < j) fun i j => .int (i % j)) (tCall (sp_l_cell_at K C) [] E0 (tCons (tVar 0) (tCons (tC (.int 0)) tNil))) (tC (.int 6))) (tC (.int 5)))) (tRet (tOp (rI0 fun i j => .int (i + j)) (tC (.int 10)) (tOp (rI (fun _ j => 0 < j) fun i j => .int (i % j)) (tOp (rI CDiv fun i j => .int (i / j)) (tCall (sp_l_cell_at K C) [] E0 (tCons (tVar 0) (tCons (tC (.int 0)) tNil))) (tC (.int 6))) (tC (.int 7))))) tNext)
  (tRet (tOp (rI0 fun i j => .int (i + j)) (tC (.int 1)) (tOp (rI (fun _ j => 0 < j) fun i j => .int (i % j)) (tOp (rI CDiv fun i j => .int (i / j)) (tCall (sp_l_cell_at K C) [] E0 (tCons (tVar 0) (tCons (tC (.int 0)) tNil))) (tC (.int 6))) (tC (.int 9))))))
theorem cutD_len {α : Type} (xs : List α) (a b : Option Int) : (cutD xs a b).length ≤ xs.length := by
  unfold cutD; rw [List.length_take, List.length_drop]; omega
theorem cutD_nat {α : Type} (xs : List α) (a b : Nat) : (cutD xs (some (a : Int)) (some (b : Int))).length ≤ b - a := by
  unfold cutD
  rw [HT.sIx_nat, HT.sIx_nat, List.length_take]; omega
/-! ### the ties told, the rows told -/
def normT (t : Tie) : PI2 := (min (t.1 : Int) t.2, max (t.1 : Int) t.2)
def intT (t : Tie) : PI2 := ((t.1 : Int), (t.2 : Int))
theorem mem_tiesOf {n : Nat} {near : List (List Nat)} {t : Tie} : t ∈ tiesOf n near ↔ t.1 < n ∧ t.1 < t.2 ∧ t.2 ∈ near.getD t.1 [] := by
  unfold tiesOf
  rw [List.mem_flatMap]
  constructor
  · rintro ⟨a, ha, h⟩
    obtain ⟨b, hb, rfl⟩ := List.mem_map.mp h
    rw [List.mem_filter] at hb
    exact ⟨List.mem_range.mp ha, of_decide_eq_true hb.2, hb.1⟩
  · rintro ⟨h1, h2, h3⟩
    exact ⟨t.1, List.mem_range.mpr h1, List.mem_map.mpr ⟨t.2, List.mem_filter.mpr ⟨h3, decide_eq_true h2⟩, rfl⟩⟩
theorem tiesOf_pw (near : List (List Nat)) (hr : ∀ x, (near.getD x []).Pairwise (· < ·)) : ∀ n, ((tiesOf n near).map intT).Pairwise fun a b => leP a b = true ∧ a ≠ b := by
  intro n
  rw [List.pairwise_map]
  induction n with
  | zero => exact .nil
  | succ n ih =>
    have e : tiesOf (n + 1) near = tiesOf n near ++ ((near.getD n []).filter fun b => decide (n < b)).map fun b => (n, b) := by
      unfold tiesOf
      rw [List.range_succ, List.flatMap_append]; simp
    rw [e, List.pairwise_append]
    refine ⟨ih, ?_, fun a ha b hb => ?_⟩
    · rw [List.pairwise_map]
      refine ((hr n).sublist List.filter_sublist).imp ?_
      intro a b h
      show leP ((n : Int), (a : Int)) ((n : Int), (b : Int)) = true ∧ ((n : Int), (a : Int)) ≠ ((n : Int), (b : Int))
      refine ⟨decide_eq_true (.inr ⟨rfl, by show (a : Int) ≤ (b : Int); omega⟩), fun e => ?_⟩
      have := (Prod.mk.inj e).2
      omega
    · obtain ⟨h1, h2, h3⟩ := mem_tiesOf.mp ha
      obtain ⟨c, _, rfl⟩ := List.mem_map.mp hb
      unfold leP intT
      simp only [decide_eq_true_eq, Prod.mk.injEq, ne_eq]
      omega
theorem nodup_map_normT {n : Nat} {ts : List Tie} (g : Good n ts) : (ts.map normT).Nodup := by
  rw [List.nodup_iff_pairwise_ne, List.pairwise_map]
  refine g.pw.imp ?_
  rintro ⟨a, b⟩ ⟨c, d⟩ ⟨h1, h2⟩ e
  simp only [normT, Prod.mk.injEq, ne_eq] at *
  omega
theorem due_ties {n : Nat} {ts : List Tie} (g : Good n ts) : sortP (ts.map normT) = (tiesOf n (nearOf n ts)).map intT := by
  have hp := tiesOf_pw (nearOf n ts) (nearOf_row n ts g) n
  refine (sortP_uniq ?_ (hp.imp fun h => h.1)).symm
  rw [List.perm_ext_iff_of_nodup (List.nodup_iff_pairwise_ne.mpr (hp.imp fun h => h.2)) (nodup_map_normT g)]
  intro p
  have m := nearOf_mem n ts (fun s hs => ⟨(g.rng s hs).1, (g.rng s hs).2.1⟩)
  constructor
  · intro h
    obtain ⟨t, ht, rfl⟩ := List.mem_map.mp h
    obtain ⟨h1, h2, h3⟩ := mem_tiesOf.mp ht
    rcases (m _ _).mp h3 with h4 | h4
    · refine List.mem_map.mpr ⟨_, h4, ?_⟩
      unfold normT intT; simp only [Prod.mk.injEq]; omega
    · refine List.mem_map.mpr ⟨_, h4, ?_⟩
      unfold normT intT; simp only [Prod.mk.injEq]; omega
  · intro h
    obtain ⟨t, ht, rfl⟩ := List.mem_map.mp h
    have hr := g.rng t ht
    by_cases c : t.1 < t.2
    · refine List.mem_map.mpr ⟨t, mem_tiesOf.mpr ⟨hr.1, c, (m _ _).mpr (.inl ht)⟩, ?_⟩
      unfold normT intT; simp only [Prod.mk.injEq]; omega
    · refine List.mem_map.mpr ⟨(t.2, t.1), mem_tiesOf.mpr ⟨hr.2.1, by show t.2 < t.1; omega, (m _ _).mpr (.inr ht)⟩, ?_⟩
      unfold normT intT; simp only [Prod.mk.injEq]; omega
theorem strict_eq : ∀ {as bs : List Nat}, as.Pairwise (· < ·) → bs.Pairwise (· < ·) → (∀ x, x ∈ as ↔ x ∈ bs) → as = bs := fun {as bs} h1 h2 h => by
  have hp : as.Perm bs := (List.perm_ext_iff_of_nodup (h1.imp (fun h => Nat.ne_of_lt h)) (h2.imp (fun h => Nat.ne_of_lt h))).mpr h
  exact hp.eq_of_pairwise (fun a b _ _ x y => Nat.le_antisymm x y) (h1.imp Nat.le_of_lt) (h2.imp Nat.le_of_lt)
theorem own_row {n : Nat} {ts : List Tie} (g : Good n ts) (x : Nat) : (List.range n).filter (fun y => decide ((x, y) ∈ ts) || decide ((y, x) ∈ ts)) = (nearOf n ts).getD x [] := by
  have m := nearOf_mem n ts (fun s hs => ⟨(g.rng s hs).1, (g.rng s hs).2.1⟩)
  refine strict_eq (List.pairwise_lt_range.sublist List.filter_sublist) (nearOf_row n ts g x) fun y => ?_
  rw [List.mem_filter, m, List.mem_range]
  simp only [Bool.or_eq_true, decide_eq_true_eq]
  constructor
  · exact fun h => h.2
  · rintro (h | h)
    · exact ⟨(g.rng _ h).2.1, .inl h⟩
    · exact ⟨(g.rng _ h).1, .inr h⟩
theorem row_len {n : Nat} {ts : List Tie} (g : Good n ts) (hn : n ≤ 16) (x : Nat) : ((nearOf n ts).getD x []).length ≤ 16 := by
  rw [← own_row g]
  have := List.length_filter_le (fun y => decide ((x, y) ∈ ts) || decide ((y, x) ∈ ts)) (List.range n)
  rw [List.length_range] at this; omega
theorem tiesOf_len {n : Nat} {ts : List Tie} (g : Good n ts) : (tiesOf n (nearOf n ts)).length = ts.length := by
  have h := congrArg List.length (due_ties g)
  rw [List.length_map] at h
  rw [← h, (sortP_perm _).length_eq, List.length_map]
section
variable {K : PySem.W.Frag} {C : Addr} {vs : List V} {H : Hp} {Q : VK} {E : XK}
theorem pure_l_many (h : sp_l_many K C vs H Q E) : t_l_many K C { nx := fun _ H' => Q .non H', rt := Q } (L2.start N_l_many vs) H := by
  refine enterD h fun F ss s hf ha hR hq => ?_
  obtain ⟨ns, rfl, rfl⟩ := hR
  refine ⟨_, ha, ?_⟩
  show WP ⟨F, H, []⟩ [.p (Scr K ns)] [] (t_l_many K C) _
  have hc : Ev ⟨F, H, []⟩ [.p (Scr K ns)] [] (tCall (sp_l_cell_at K C) [] E0 (tCons (tVar 0) (tCons (tC (.int 0)) tNil))) (.d (.int (cellZ ns 0))) := ev_call (ea_cons (ev_var rfl rfl) (ea_cons ev_int ea_nil)) fun _ _ _ _ => ⟨ns, 0, rfl, rfl⟩
  refine q_when (b := decide (cellZ ns 0 % 6 = 5)) (et_B (ev_op (ev_op hc ev_int (rv_iC (P := fun _ j => 0 < j) (by decide))) ev_int rv_eqI)) (fun c => ?_) (fun c => ?_)
  · have c := of_decide_eq_true c
    refine s_ret (ev_eq (ev_op ev_int (ev_op (ev_op hc ev_int (rv_iC (P := CDiv) ⟨by decide, by decide⟩)) ev_int (rv_iC (P := fun _ j => 0 < j) (by decide))) rv_ii) ?_) hq
    have : ((manyA ns : Nat) : Int) = 10 + cellZ ns 0 / 6 % 7 := by unfold manyA; rw [if_pos c]; omega
    rw [show sN (manyA ns) = .d (.int ((manyA ns : Nat) : Int)) from rfl, this]
  · have c := of_decide_eq_false c
    refine s_ret (ev_eq (ev_op ev_int (ev_op (ev_op hc ev_int (rv_iC (P := CDiv) ⟨by decide, by decide⟩)) ev_int (rv_iC (P := fun _ j => 0 < j) (by decide))) rv_ii) ?_) hq
    have : ((manyA ns : Nat) : Int) = 1 + cellZ ns 0 / 6 % 9 := by unfold manyA; rw [if_neg c]; omega
    rw [show sN (manyA ns) = .d (.int ((manyA ns : Nat) : Int)) from rfl, this]
end
end FA

set_option Elab.async false
set_option linter.all false
set_option maxRecDepth 100000
set_option maxHeartbeats 1000000
set_option autoImplicit false
/-! coming along ties; pieces; labels -/
namespace FM
open FW
/-! ### come_to comes just to what is reached -/
inductive Reach (near : List (List Nat)) (bar : Nat → Bool) (s : Nat) : Nat → Prop
  | base : Reach near bar s s
  | step {x y : Nat} : Reach near bar s x → y ∈ near.getD x [] → bar y = false → Reach near bar s y
theorem mem_ctAdd (bar : Nat → Bool) : ∀ (os f : List Nat) (x : Nat), x ∈ ctAdd bar f os ↔ x ∈ f ∨ (x ∈ os ∧ bar x = false)
  | [], f, x => by show x ∈ f ↔ _; simp
  | o :: os, f, x => by
    show x ∈ ctAdd bar (if o ∈ f then f else if bar o then f else f ++ [o]) os ↔ _
    rw [mem_ctAdd bar os]
    by_cases c : o ∈ f
    · rw [if_pos c]
      constructor
      · rintro (h | ⟨h, b⟩)
        · exact .inl h
        · exact .inr ⟨List.mem_cons_of_mem _ h, b⟩
      · rintro (h | ⟨h, b⟩)
        · exact .inl h
        · rcases List.mem_cons.mp h with rfl | h
          · exact .inl c
          · exact .inr ⟨h, b⟩
    · rw [if_neg c]
      by_cases d : bar o = true
      · rw [if_pos d]
        constructor
        · rintro (h | ⟨h, b⟩)
          · exact .inl h
          · exact .inr ⟨List.mem_cons_of_mem _ h, b⟩
        · rintro (h | ⟨h, b⟩)
          · exact .inl h
          · rcases List.mem_cons.mp h with rfl | h
            · rw [d] at b; cases b
            · exact .inr ⟨h, b⟩
      · rw [if_neg d]
        have d' : bar o = false := by simpa using d
        constructor
        · rintro (h | ⟨h, b⟩)
          · rcases List.mem_append.mp h with h | h
            · exact .inl h
            · have h : x = o := by simpa using h
              subst h; exact .inr ⟨List.mem_cons_self, d'⟩
          · exact .inr ⟨List.mem_cons_of_mem _ h, b⟩
        · rintro (h | ⟨h, b⟩)
          · exact .inl (List.mem_append_left _ h)
          · rcases List.mem_cons.mp h with rfl | h
            · exact .inl (List.mem_append_right _ (by simp))
            · exact .inr ⟨h, b⟩
theorem ctAdd_pre (bar : Nat → Bool) : ∀ (os f : List Nat), ∃ g, ctAdd bar f os = f ++ g
  | [], f => ⟨[], (List.append_nil f).symm⟩
  | o :: os, f => by
    show ∃ g, ctAdd bar (if o ∈ f then f else if bar o then f else f ++ [o]) os = f ++ g
    by_cases c : o ∈ f
    · rw [if_pos c]; exact ctAdd_pre bar os f
    · rw [if_neg c]
      by_cases d : bar o = true
      · rw [if_pos d]; exact ctAdd_pre bar os f
      · rw [if_neg d]
        obtain ⟨g, h⟩ := ctAdd_pre bar os (f ++ [o])
        exact ⟨o :: g, by rw [h]; simp⟩
/-- a point whose neighbours are all there, or barred -/
def Closed (near : List (List Nat)) (bar : Nat → Bool) (f : List Nat) (x : Nat) : Prop := ∀ y ∈ near.getD x [], bar y = true ∨ y ∈ f
theorem ctRun_ok (near : List (List Nat)) (bar : Nat → Bool) (s : Nat) (hok : ∀ r ∈ near, ∀ x ∈ r, x < near.length) : ∀ (k : Nat) (f : List Nat) (i : Nat), f.Nodup → (∀ x ∈ f, x < near.length) → (∀ x ∈ f, Reach near bar s x) → i + k = near.length → (∀ j x, j < i → f[j]? = some x → Closed near bar f x) →
    (ctRun near bar k f i).Nodup ∧ (∀ x ∈ ctRun near bar k f i, x < near.length) ∧ (∀ x ∈ ctRun near bar k f i, Reach near bar s x) ∧ (∀ x ∈ f, x ∈ ctRun near bar k f i) ∧ ∀ x ∈ ctRun near bar k f i, Closed near bar (ctRun near bar k f i) x
  | 0, f, i, h1, h2, h3, h4, h5 => by
    refine ⟨h1, h2, h3, fun x h => h, fun x hx => ?_⟩
    have hl := nodup_len h1 h2
    have hx : x ∈ f := hx
    obtain ⟨j, hj, rfl⟩ := List.getElem_of_mem hx
    exact h5 j _ (by omega) (List.getElem?_eq_getElem hj)
  | k + 1, f, i, h1, h2, h3, h4, h5 => by
    show (match f[i]? with | none => f | some x => ctRun near bar k (ctAdd bar f (near.getD x [])) (i + 1)).Nodup ∧ _
    cases e : f[i]? with
    | none =>
      have hr : ctRun near bar (k + 1) f i = f := by
        show (match f[i]? with | none => f | some x => ctRun near bar k (ctAdd bar f (near.getD x [])) (i + 1)) = f
        rw [e]
      rw [hr]
      refine ⟨h1, h2, h3, fun x h => h, fun x hx => ?_⟩
      obtain ⟨j, hj, rfl⟩ := List.getElem_of_mem hx
      have : f.length ≤ i := List.getElem?_eq_none_iff.mp e
      exact h5 j _ (by omega) (List.getElem?_eq_getElem hj)
    | some x =>
      have hr : ctRun near bar (k + 1) f i = ctRun near bar k (ctAdd bar f (near.getD x [])) (i + 1) := by
        show (match f[i]? with | none => f | some x => ctRun near bar k (ctAdd bar f (near.getD x [])) (i + 1)) = _
        rw [e]
      rw [hr]
      have hxf : x ∈ f := List.mem_of_getElem? e
      have hrow : ∀ y ∈ near.getD x [], y < near.length := by
        intro y hy
        rw [List.getD_eq_getElem?_getD] at hy
        cases q : near[x]? with
        | none => rw [q] at hy; cases hy
        | some r => rw [q] at hy; exact hok r (List.mem_of_getElem? q) y hy
      obtain ⟨g1, g2⟩ := ctAdd_ok bar near.length (near.getD x []) f h1 h2 hrow
      obtain ⟨g, hg⟩ := ctAdd_pre bar (near.getD x []) f
      have ih := ctRun_ok near bar s hok k (ctAdd bar f (near.getD x [])) (i + 1) g1 g2 (fun y hy => by
        rcases (mem_ctAdd bar _ f y).mp hy with h | ⟨h, b⟩
        · exact h3 y h
        · exact .step (h3 x hxf) h b) (by omega) (fun j y hj hy => by
        by_cases c : j < i
        · have hjf : j < f.length := by have := (List.getElem?_eq_some_iff.mp e).1; omega
          rw [hg, List.getElem?_append_left hjf] at hy
          intro z hz
          rcases h5 j y c hy z hz with b | b
          · exact .inl b
          · exact .inr ((mem_ctAdd bar _ f z).mpr (.inl b))
        · have hji : j = i := by omega
          subst hji
          have hjf : j < f.length := (List.getElem?_eq_some_iff.mp e).1
          rw [hg, List.getElem?_append_left hjf, e] at hy
          cases hy
          intro z hz
          cases b : bar z with
          | true => exact .inl rfl
          | false => exact .inr ((mem_ctAdd bar _ f z).mpr (.inr ⟨hz, b⟩)))
      exact ⟨ih.1, ih.2.1, ih.2.2.1, fun y hy => ih.2.2.2.1 y ((mem_ctAdd bar _ f y).mpr (.inl hy)), ih.2.2.2.2⟩
theorem comeTo_ok {near : List (List Nat)} {bar : Nat → Bool} {s : Nat} (hok : ∀ r ∈ near, ∀ x ∈ r, x < near.length) (hs : s < near.length) : (comeTo near bar s).Nodup ∧ (∀ x ∈ comeTo near bar s, x < near.length) ∧ ∀ x, x ∈ comeTo near bar s ↔ Reach near bar s x := by
  obtain ⟨h1, h2, h3, h4, h5⟩ := ctRun_ok near bar s hok near.length [s] 0 (by simp) (by simpa using hs) (fun x hx => (by simpa using hx : x = s) ▸ .base) (by omega) (fun j x hj => by omega)
  refine ⟨h1, h2, fun x => ⟨h3 x, fun h => ?_⟩⟩
  induction h with
  | base => exact h4 s (by simp)
  | step _ hy hb ih =>
    rcases h5 _ ih _ hy with b | b
    · rw [b] at hb; cases hb
    · exact b
/-! ### along ties -/
inductive Conn (ts : List Tie) : Nat → Nat → Prop
  | refl (x : Nat) : Conn ts x x
  | tie {x y : Nat} : (x, y) ∈ ts → Conn ts x y
  | symm {x y : Nat} : Conn ts x y → Conn ts y x
  | trans {x y z : Nat} : Conn ts x y → Conn ts y z → Conn ts x z
theorem Conn.mono {ts us : List Tie} (h : ∀ t ∈ ts, t ∈ us) {x y : Nat} (c : Conn ts x y) : Conn us x y := by
  induction c with
  | refl x => exact .refl x
  | tie h' => exact .tie (h _ h')
  | symm _ ih => exact .symm ih
  | trans _ _ a b => exact .trans a b
theorem Conn.rng {n : Nat} {ts : List Tie} (h : ∀ t ∈ ts, t.1 < n ∧ t.2 < n) {x y : Nat} (c : Conn ts x y) : (x < n ↔ y < n) := by
  induction c with
  | refl x => exact Iff.rfl
  | tie h' => exact ⟨fun _ => (h _ h').2, fun _ => (h _ h').1⟩
  | symm _ ih => exact ih.symm
  | trans _ _ a b => exact a.trans b
theorem reach_conn {n : Nat} {ts : List Tie} (h : ∀ t ∈ ts, t.1 < n ∧ t.2 < n) {s x : Nat} : Reach (nearOf n ts) (fun _ => false) s x ↔ Conn ts s x := by
  have m := nearOf_mem n ts h
  constructor
  · intro r
    induction r with
    | base => exact .refl _
    | step _ hy _ ih =>
      rcases (m _ _).mp hy with h1 | h1
      · exact .trans ih (.tie h1)
      · exact .trans ih (.symm (.tie h1))
  · have tr : ∀ {a b c : Nat}, Reach (nearOf n ts) (fun _ => false) a b → Reach (nearOf n ts) (fun _ => false) b c → Reach (nearOf n ts) (fun _ => false) a c := by
      intro a b c h1 h2
      induction h2 with
      | base => exact h1
      | step _ hy hb ih => exact .step ih hy hb
    have one : ∀ {a b : Nat}, b ∈ (nearOf n ts).getD a [] → Reach (nearOf n ts) (fun _ => false) a b := fun h => .step .base h rfl
    have sy : ∀ {a b : Nat}, Reach (nearOf n ts) (fun _ => false) a b → Reach (nearOf n ts) (fun _ => false) b a := by
      intro a b h1
      induction h1 with
      | base => exact .base
      | step _ hy _ ih => exact tr (one ((m _ _).mpr (((m _ _).mp hy).symm))) ih
    intro c
    induction c with
    | refl x => exact .base
    | tie h' => exact one ((m _ _).mpr (.inl h'))
    | symm _ ih => exact sy ih
    | trans _ _ a b => exact tr a b
/-! ### labels -/
def lab (L : List Nat) (x : Nat) : Nat := L.getD x 0
def mergeLab (L : List Nat) (t : Tie) : List Nat := L.map fun l => if l = max (lab L t.1) (lab L t.2) then min (lab L t.1) (lab L t.2) else l
def labelsOf (n : Nat) (ts : List Tie) : List Nat := ts.foldl mergeLab (List.range n)
structure LabOk (n : Nat) (ts : List Tie) (L : List Nat) : Prop where
  len : L.length = n
  le : ∀ x, x < n → lab L x ≤ x
  fix : ∀ x, x < n → lab L (lab L x) = lab L x
  iff : ∀ x y, x < n → y < n → (lab L x = lab L y ↔ Conn ts x y)
theorem lab_map {L : List Nat} {f : Nat → Nat} {x : Nat} (h : x < L.length) : lab (L.map f) x = f (lab L x) := by
  unfold lab
  rw [List.getD_eq_getElem?_getD, List.getD_eq_getElem?_getD, List.getElem?_map, List.getElem?_eq_getElem h]; rfl
theorem lab_range {n x : Nat} (h : x < n) : lab (List.range n) x = x := by
  unfold lab
  rw [List.getD_eq_getElem?_getD, List.getElem?_range h]; rfl
theorem labOk0 (n : Nat) : LabOk n [] (List.range n) where
  len := List.length_range
  le := fun x h => by rw [lab_range h]; exact Nat.le_refl _
  fix := fun x h => by rw [lab_range h, lab_range h]
  iff := fun x y hx hy => by
    rw [lab_range hx, lab_range hy]
    constructor
    · rintro rfl; exact .refl _
    · intro c
      clear hx hy
      induction c with
      | refl x => rfl
      | tie h => cases h
      | symm _ ih => exact ih.symm
      | trans _ _ a b => exact a.trans b
theorem labOk_step {n : Nat} {ts : List Tie} {L : List Nat} (h : LabOk n ts L) {t : Tie} (ht : t.1 < n ∧ t.2 < n) (hts : ∀ t ∈ ts, t.1 < n ∧ t.2 < n) : LabOk n (ts ++ [t]) (mergeLab L t) := by
  obtain ⟨a, b⟩ := t
  obtain ⟨ha, hb⟩ : a < n ∧ b < n := ht
  have eq : ∀ x, x < n → lab (mergeLab L (a, b)) x = if lab L x = max (lab L a) (lab L b) then min (lab L a) (lab L b) else lab L x := fun x hx => lab_map (by rw [h.len]; exact hx)
  have la := h.le a ha
  have lb := h.le b hb
  have fa := h.fix a ha
  have fb := h.fix b hb
  have m1 : ∀ x y, Conn ts x y → Conn (ts ++ [(a, b)]) x y := fun x y c => c.mono fun t ht => List.mem_append_left _ ht
  have ab : Conn (ts ++ [(a, b)]) a b := .tie (List.mem_append_right _ (by simp))
  refine ⟨by unfold mergeLab; rw [List.length_map, h.len], fun x hx => ?_, fun x hx => ?_, fun x y hx hy => ?_⟩
  · rw [eq x hx]
    have := h.le x hx
    split
    · rename_i e; omega
    · exact this
  · rw [eq x hx]
    have lx := h.le x hx
    have fx := h.fix x hx
    split
    · rename_i e
      have hm : lab L (min (lab L a) (lab L b)) = min (lab L a) (lab L b) := by
        rcases Nat.le_total (lab L a) (lab L b) with z | z
        · rw [Nat.min_eq_left z, fa]
        · rw [Nat.min_eq_right z, fb]
      rw [eq _ (by omega), hm]
      split <;> rfl
    · rename_i e
      rw [eq _ (by omega), fx, if_neg e]
  · rw [eq x hx, eq y hy]
    have key : ∀ z, z < n → lab L z = max (lab L a) (lab L b) → Conn (ts ++ [(a, b)]) z a := by
      intro z hz e
      rcases Nat.le_total (lab L a) (lab L b) with q | q
      · rw [Nat.max_eq_right q] at e
        exact (m1 _ _ ((h.iff z b hz hb).mp e)).trans ab.symm
      · rw [Nat.max_eq_left q] at e
        exact m1 _ _ ((h.iff z a hz ha).mp e)
    have key2 : ∀ z, z < n → lab L z = min (lab L a) (lab L b) → Conn (ts ++ [(a, b)]) z a := by
      intro z hz e
      rcases Nat.le_total (lab L a) (lab L b) with q | q
      · rw [Nat.min_eq_left q] at e
        exact m1 _ _ ((h.iff z a hz ha).mp e)
      · rw [Nat.min_eq_right q] at e
        exact (m1 _ _ ((h.iff z b hz hb).mp e)).trans ab.symm
    constructor
    · intro e
      by_cases c1 : lab L x = max (lab L a) (lab L b)
      · by_cases c2 : lab L y = max (lab L a) (lab L b)
        · exact (key x hx c1).trans (key y hy c2).symm
        · rw [if_pos c1, if_neg c2] at e
          exact (key x hx c1).trans (key2 y hy e.symm).symm
      · by_cases c2 : lab L y = max (lab L a) (lab L b)
        · rw [if_neg c1, if_pos c2] at e
          exact (key2 x hx e).trans (key y hy c2).symm
        · rw [if_neg c1, if_neg c2] at e
          exact m1 _ _ ((h.iff x y hx hy).mp e)
    · intro c
      have gen : ∀ u v, Conn (ts ++ [(a, b)]) u v → u < n → v < n → (if lab L u = max (lab L a) (lab L b) then min (lab L a) (lab L b) else lab L u) = (if lab L v = max (lab L a) (lab L b) then min (lab L a) (lab L b) else lab L v) := by
        intro u v c
        induction c with
        | refl x => intro _ _; rfl
        | tie h' =>
          intro hu hv
          rcases List.mem_append.mp h' with h' | h'
          · rw [(h.iff _ _ hu hv).mpr (.tie h')]
          · have h' := List.mem_singleton.mp h'
            simp only [Prod.mk.injEq] at h'
            obtain ⟨rfl, rfl⟩ := h'
            split <;> split <;> omega
        | symm _ ih => intro hu hv; exact (ih hv hu).symm
        | @trans p q r c1 c2 i1 i2 =>
          intro hu hv
          have hq : q < n := (c1.rng (n := n) (fun t ht => by
            rcases List.mem_append.mp ht with ht | ht
            · exact hts t ht
            · have : t = (a, b) := by simpa using ht
              subst this; exact ⟨ha, hb⟩)).mp hu
          exact (i1 hu hq).trans (i2 hq hv)
      exact gen x y c hx hy
theorem labelsOf_snoc (n : Nat) (ts : List Tie) (t : Tie) : labelsOf n (ts ++ [t]) = mergeLab (labelsOf n ts) t := by unfold labelsOf; rw [List.foldl_append]; rfl
theorem labelsOf_ok (n : Nat) : ∀ ts : List Tie, (∀ t ∈ ts, t.1 < n ∧ t.2 < n) → LabOk n ts (labelsOf n ts) := by
  refine rev_ind ?_ ?_
  · intro _; exact labOk0 n
  · intro l a ih h
    rw [labelsOf_snoc]
    exact labOk_step (ih fun t ht => h t (List.mem_append_left _ ht)) (h a (List.mem_append_right _ List.mem_cons_self)) fun t ht => h t (List.mem_append_left _ ht)
/-! ### pieces -/
/-- what pieces() has found, and what it has met, behind the first k points -/
def pieceOf (near : List (List Nat)) (p : Nat) : List Nat := sortN (comeTo near (fun _ => false) p)
def pcs (near : List (List Nat)) : Nat → List (List Nat) × List Nat
  | 0 => ([], [])
  | k + 1 => if k ∈ (pcs near k).2 then pcs near k else ((pcs near k).1 ++ [pieceOf near k], (pcs near k).2 ++ pieceOf near k)
def labRow (L : List Nat) (n l : Nat) : List Nat := (List.range n).filter fun p => decide (lab L p = l)
theorem piece_row {n : Nat} {ts : List Tie} (g : Good n ts) (hn : n ≤ 16) {L : List Nat} (hL : LabOk n ts L) {p : Nat} (hp : p < n) (hf : lab L p = p) : pieceOf (nearOf n ts) p = labRow L n p := by
  have ok := nearOf_ok g hn
  have hr : ∀ t ∈ ts, t.1 < n ∧ t.2 < n := fun t ht => ⟨(g.rng t ht).1, (g.rng t ht).2.1⟩
  obtain ⟨h1, h2, h3⟩ := comeTo_ok (bar := fun _ => false) (fun r hr => (ok.2 r hr).2) (by rw [nearOf_len]; exact hp)
  rw [nearOf_len] at h2
  have hpw : (pieceOf (nearOf n ts) p).Pairwise (· < ·) := by
    have h4 := (sortN_pw (comeTo (nearOf n ts) (fun _ => false) p)).and ((sortN_perm _).nodup_iff.mpr h1)
    exact h4.imp (by intro a b h; omega)
  have e : ∀ x, x ∈ pieceOf (nearOf n ts) p ↔ x ∈ labRow L n p := by
    intro x
    unfold pieceOf labRow
    rw [mem_sortN, h3, reach_conn hr, List.mem_filter, List.mem_range]
    simp only [decide_eq_true_eq]
    constructor
    · intro c
      have hx : x < n := (c.rng hr).mp hp
      exact ⟨hx, by rw [← hf]; exact (hL.iff x p hx hp).mpr c.symm⟩
    · rintro ⟨hx, e⟩
      exact ((hL.iff x p hx hp).mp (by rw [e, hf])).symm
  have hp2 : (labRow L n p).Pairwise (· < ·) := List.pairwise_lt_range.sublist List.filter_sublist
  have hperm : (pieceOf (nearOf n ts) p).Perm (labRow L n p) := (List.perm_ext_iff_of_nodup (hpw.imp (fun h => Nat.ne_of_lt h)) (hp2.imp (fun h => Nat.ne_of_lt h))).mpr e
  exact hperm.eq_of_pairwise (fun a b _ _ x y => Nat.le_antisymm x y) (hpw.imp Nat.le_of_lt) (hp2.imp Nat.le_of_lt)
theorem pcs_lab {n : Nat} {ts : List Tie} (g : Good n ts) (hn : n ≤ 16) {L : List Nat} (hL : LabOk n ts L) : ∀ k, k ≤ n → (pcs (nearOf n ts) k).1 = ((List.range k).filter fun p => decide (lab L p = p)).map (labRow L n) ∧ ∀ x, x ∈ (pcs (nearOf n ts) k).2 ↔ x < n ∧ lab L x < k := by
  intro k
  induction k with
  | zero => intro _; exact ⟨rfl, fun x => by show x ∈ ([] : List Nat) ↔ _; simp⟩
  | succ k ih =>
    intro hk
    obtain ⟨i1, i2⟩ := ih (by omega)
    have hkl := hL.le k (by omega)
    by_cases c : k ∈ (pcs (nearOf n ts) k).2
    · have e : pcs (nearOf n ts) (k + 1) = pcs (nearOf n ts) k := if_pos c
      have hlt := ((i2 k).mp c).2
      rw [e, i1, List.range_succ, List.filter_append]
      refine ⟨?_, fun x => ?_⟩
      · have : ¬ lab L k = k := by omega
        simp [this]
      · rw [i2]
        constructor
        · rintro ⟨a, b⟩; exact ⟨a, by omega⟩
        · rintro ⟨a, b⟩
          refine ⟨a, ?_⟩
          by_cases z : lab L x = k
          · have := hL.fix x a
            rw [z] at this; omega
          · omega
    · have e : pcs (nearOf n ts) (k + 1) = ((pcs (nearOf n ts) k).1 ++ [pieceOf (nearOf n ts) k], (pcs (nearOf n ts) k).2 ++ pieceOf (nearOf n ts) k) := if_neg c
      have hfk : lab L k = k := by
        have : ¬ lab L k < k := fun z => c ((i2 k).mpr ⟨by omega, z⟩)
        omega
      rw [e]
      refine ⟨?_, fun x => ?_⟩
      · show (pcs (nearOf n ts) k).1 ++ [pieceOf (nearOf n ts) k] = _
        rw [i1, List.range_succ, List.filter_append, List.map_append, piece_row g hn hL (by omega) hfk]
        simp [hfk]
      · show x ∈ (pcs (nearOf n ts) k).2 ++ pieceOf (nearOf n ts) k ↔ _
        rw [List.mem_append, i2, piece_row g hn hL (by omega) hfk]
        unfold labRow
        rw [List.mem_filter, List.mem_range]
        simp only [decide_eq_true_eq]
        constructor
        · rintro (⟨a, b⟩ | ⟨a, b⟩)
          · exact ⟨a, by omega⟩
          · exact ⟨a, by omega⟩
        · rintro ⟨a, b⟩
          by_cases z : lab L x = k
          · exact .inr ⟨a, z⟩
          · exact .inl ⟨a, by omega⟩
theorem labRow_nil {n : Nat} {ts : List Tie} {L : List Nat} (hL : LabOk n ts L) {l : Nat} (hl : l < n) : labRow L n l ≠ [] ↔ lab L l = l := by
  unfold labRow
  constructor
  · intro h
    obtain ⟨x, hx⟩ := List.exists_mem_of_ne_nil _ h
    rw [List.mem_filter, List.mem_range] at hx
    have e : lab L x = l := of_decide_eq_true hx.2
    rw [← e]; exact hL.fix x hx.1
  · intro h e
    have : l ∈ (List.range n).filter fun p => decide (lab L p = l) := List.mem_filter.mpr ⟨List.mem_range.mpr hl, decide_eq_true h⟩
    rw [e] at this; cases this
end FM

set_option Elab.async false
set_option linter.all false
set_option maxRecDepth 100000
set_option maxHeartbeats 1000000
set_option autoImplicit false
/-! pieces() at work -/
namespace FP
open PySem L2 FD FW FM
open Evl (Ex)
/-- a list of ours, made since H0 -/
def NewL (H0 : Hp) (r : List Nat) : Mono := ⟨fun F v => Rep F v (dNs r) ∧ ∃ a, v = .ref a ∧ H0 a = none, fun F F' v e h => ⟨Rep.mono e _ _ h.1, h.2⟩⟩
section
variable {B : Base} {Δ : List Sd} {C : Cs} {te : TE}
theorem ev_newL {H0 : Hp} {r : List Nat} (h : EvN B Δ C te (.lst (r.map sN))) (h0 : ∀ a, B.H a = none → H0 a = none) : Ev B Δ C te (.p (NewL H0 r)) := fun σ H F hs Q q => h σ H F hs Q fun p F' H' h' e1 e2 hp => by
  have hB := hs.free hp
  have h2 : St B Δ ((p, .lst ((r.map dN).map Sd.d)) :: C) σ H' F' := by rw [List.map_map]; exact h'
  obtain ⟨F2, e3, h4, hr⟩ := h2.frzD (k := 0) rfl hB
  exact q _ _ _ h4 (e1.trans e3) e2 ⟨hr, p, rfl, h0 p hB⟩
theorem ev_newD {H0 : Hp} {r : List Nat} (h : Ev B Δ C te (.p (NewL H0 r))) : Ev B Δ C te (.d (dNs r)) := fun σ H F hs Q q => h σ H F hs Q fun v F' H' a b c w => q v F' H' a b c w.1
end
theorem rep_newL {F : Hp} {H0 : Hp} : ∀ {rs : List (List Nat)} {xs : List V}, SlA F xs (rs.map fun r => .p (NewL H0 r)) → RepA F xs (rs.map dNs)
  | [], _, h => by cases h; exact .nil
  | r :: rs, _, h => by cases h with | cons h1 t => exact .cons h1.1 (rep_newL t)
def R_pieces (C : Addr) : Hp → Hp → List Sd → Cd → Prop := fun F H ss c => ∃ n near H0, ss = [.p (WebM C n near)] ∧ near.length = n ∧ NearOk near ∧ (∀ a, H a = none → H0 a = none) ∧ c = .lst ((pcs near n).1.map fun r => .p (NewL H0 r))
def sp_Web_pieces (K : PySem.W.Frag) (C : Addr) : Sp := SpN (R_pieces C)
def N_Web_pieces : List Str := ["self", "found", "met", "point", "piece", "other"]
def t_Web_pieces (K : PySem.W.Frag) (C : Addr) : TS :=
  (tSeq (tAsg (tLst tNil) (gName 1))
  (tSeq (tAsg tDNewK (gName 2))
  (tSeq (tFor (iRng1 (tCons (tFld K (tVar 0) "many") tNil)) (gName 3) (tIfS (tB (tDNotIn (tVar 3) (tVar 2))) (tSeq (tAsg (tCB (rSortedI K) (tCons (tCall (sp_come_to K C) [] E0 (tCons (tFld K (tVar 0) "near") (tCons (tVar 3) (tCons tDNewK tNil)))) tNil)) (gName 4))
  (tSeq (tFor (iList K (tVar 4)) (gName 5) (sDPut (tVar 2) (tVar 5) (tC (.bl true))))
  (tDrop (tBM K "list" rAppend (tVar 1) (tCons (tVar 4) tNil))))) tNext))
  (tRet (tVar 1)))))
theorem pieceOf_len {near : List (List Nat)} (ok : NearOk near) {p : Nat} (hp : p < near.length) : (pieceOf near p).length ≤ 16 ∧ ∀ x ∈ pieceOf near p, x < near.length := by
  obtain ⟨h1, h2, h3⟩ := comeTo_ok (bar := fun _ => false) (fun r hr => (ok.2 r hr).2) hp
  unfold pieceOf
  refine ⟨?_, fun x hx => h2 x (mem_sortN.mp hx)⟩
  rw [(sortN_perm _).length_eq]
  exact Nat.le_trans (nodup_len h1 h2) ok.1
theorem pcs_len (near : List (List Nat)) : ∀ k, (pcs near k).1.length ≤ k
  | 0 => Nat.le_refl _
  | k + 1 => by
    have ih := pcs_len near k
    by_cases c : k ∈ (pcs near k).2
    · rw [show pcs near (k + 1) = pcs near k from if_pos c]; omega
    · rw [show pcs near (k + 1) = ((pcs near k).1 ++ [pieceOf near k], (pcs near k).2 ++ pieceOf near k) from if_neg c]
      simp; omega
section
variable {K : PySem.W.Frag} {C : Addr} {vs : List V} {H : Hp} {Q : VK} {E : XK}
theorem pure_Web_pieces (w : WebC K C) (h : sp_Web_pieces K C vs H Q E) : t_Web_pieces K C { nx := fun _ H' => Q .non H', rt := Q } (L2.start N_Web_pieces vs) H := by
  refine enterN h fun F ss s hf ha hR hq => ?_
  obtain ⟨n, near, H0, rfl, hl, ok, hH0, rfl⟩ := hR
  refine ⟨_, ha, ?_⟩
  have hn16 := ok.1
  show WP ⟨F, H, []⟩ [.p (WebM C n near), .no, .no, .no, .no, .no] [] (t_Web_pieces K C) _
  refine q_new evN_lst0 fun l hlf => ?_
  have hlf : H l = none := hlf
  refine q_new evN_dnewK fun m hmf => ?_
  have hmf : H m = none := hmf
  refine q_for1 (α := List (Key × Sd)) dN (Src.rN (ea_cons (ev_many w (ev_var rfl rfl)) ea_nil)) (fun i kvs => (∀ x : Nat, (lookA kvs (.inl (x : Int))).isSome = decide (x ∈ (pcs near i).2)) ∧ kvs.length ≤ 16 * i) (fun _ _ => [.p (WebM C n near), .v (.ref l), .v (.ref m), .any, .any, .any])
    (fun i kvs => [(m, .dk kvs), (l, .lst ((pcs near i).1.map fun r => .p (NewL H0 r)))]) (fun G => nx_inv [] ⟨fun x => by rw [lookA_nil]; rfl, Nat.le_refl _⟩) ?_ ?_
  · intro G i kvs p hp ⟨hk, hkl⟩
    have hpi : p = i ∧ p < n := by
      have h1 : p < n := by rw [← List.mem_range]; exact List.mem_of_getElem? hp
      have h2 := (List.getElem?_eq_some_iff.mp hp).1
      rw [List.length_range] at h2
      rw [List.getElem?_range h2] at hp
      exact ⟨(Option.some.inj hp).symm, h1⟩
    obtain ⟨rfl, hpn⟩ := hpi
    refine s_when (b := !decide (p ∈ (pcs near p).2)) (evT_eq (et_B (ev_dniK (k := 0) (x := .inl (p : Int)) rfl (ev_var rfl rfl) (ev_var rfl rfl))) (by rw [hk])) (fun c => ?_) (fun c => ?_)
    · have c : ¬ p ∈ (pcs near p).2 := by simpa using c
      obtain ⟨pl, pr⟩ := pieceOf_len ok (p := p) (by omega)
      refine q_asg (s := .p (NewL H0 (pieceOf near p))) (ev_newL (evN_eq (evN_cb (ea_cons (ev_of' (((comeTo near (fun _ => false) p).map fun k : Nat => (k : Int)).map PyData.int) (evN_call (ea_cons (ev_near w (ev_var rfl rfl)) (ea_cons (ev_var rfl rfl) (ea_cons (ev_dk evN_dnewK) ea_nil))) fun σ H' F' hs => ⟨near, p, _, _, fun _ => false, rfl, .inl rfl, ok, by omega, fun v hv => ?_, rfl⟩) (by simp)) ea_nil) rcN_sorted) (by rw [sortI_nat]; simp [pieceOf])) hH0) ?_
      · obtain ⟨a, vs, rfl, h2, h3⟩ := hv
        cases h3
        exact ⟨a, [], rfl, hs.fh _ _ h2, fun x => rfl⟩
      refine q_for1 (α := List (Key × Sd)) dN (Src.list (ev_newD (ev_var rfl rfl))) (fun j kv2 => (∀ x : Nat, (lookA kv2 (.inl (x : Int))).isSome = decide (x ∈ (pcs near p).2 ++ (pieceOf near p).take j)) ∧ kv2.length ≤ 16 * p + j) (fun _ _ => [.p (WebM C n near), .v (.ref l), .v (.ref m), .any, .p (NewL H0 (pieceOf near p)), .any])
        (fun j kv2 => [(m, .dk kv2), (l, .lst ((pcs near p).1.map fun r => .p (NewL H0 r)))]) (fun G => nx_inv kvs ⟨fun x => by rw [hk, List.take_zero, List.append_nil], hkl⟩) ?_ ?_
      · intro G j kv2 x hx ⟨hk2, hl2⟩
        have hj : j < (pieceOf near p).length := (List.getElem?_eq_some_iff.mp hx).1
        refine s_dputK (k := 0) (x := .inl (x : Int)) rfl ev_bl (ev_var rfl rfl) (ev_var rfl rfl) (nx_inv (putA kv2 (.inl (x : Int)) (.d (.bool true))) ⟨fun y => ?_, ?_⟩) (by omega)
        · rw [lookA_put, take_succ hx]
          by_cases e : y = x
          · subst e; simp
          · have e' : ¬ (Sum.inl (y : Int) : Key) = Sum.inl (x : Int) := fun z => e (by have := Sum.inl.inj z; omega)
            rw [if_neg e', hk2]
            simp [e]
        · have := putA_len kv2 (.inl (x : Int)) (Sd.d (.bool true)); omega
      · intro kv2 ⟨hk2, hl2⟩
        have e : pcs near (p + 1) = ((pcs near p).1 ++ [pieceOf near p], (pcs near p).2 ++ pieceOf near p) := if_neg c
        refine s_app (k := 1) rfl (ev_var rfl rfl) (ev_var rfl rfl) (nx_inv kv2 ⟨fun x => ?_, ?_⟩ (hC := ?_)) (by rw [List.length_map]; have := pcs_len near p; omega)
        · rw [hk2, List.take_length, e]
        · omega
        · rw [e]; simp
    · have c : p ∈ (pcs near p).2 := by simpa using c
      have e : pcs near (p + 1) = pcs near p := if_pos c
      exact nx_inv kvs ⟨fun x => by rw [hk, e], by omega⟩ (hC := by rw [e])
  · intro kvs _
    rw [List.length_range]
    exact s_retN (k := 1) rfl (ev_var rfl rfl) hq (by simp; exact ⟨hmf, hlf⟩)
end
end FP

set_option Elab.async false
set_option linter.all false
set_option maxRecDepth 100000
set_option maxHeartbeats 1000000
set_option autoImplicit false
/-! dicts with tuple keys: setdefault, values, sorted; sorted of data -/
namespace FY
open PySem PySem.Spec PyProof.Rows
open L2 hiding St
section
variable {X : Cx}
def rSetdT : V → List V → Hp → VK → Prop := fun x xs H Q => ∃ (a : Addr) (kvs : List (List L2.Key × V)) (k : List L2.Key) (b : Addr) (d : V), x = .ref a ∧ xs = [.ref b, d] ∧ H a = some (.dT kvs) ∧ H b = some (.tup (k.map kV)) ∧ kvs.length < sizeLine ∧
  (∀ v, valV kvs k = some v → Q v H) ∧ (valV kvs k = none → Q d (upd H a (.dT (putK kvs k d))))
theorem mt_setdT (hu : X.A.units + 1 < cLine) : MtR X "dict.setdefault" rSetdT := by
  intro pins s σ H x xs v us Q I rx rxs h
  obtain ⟨a, kvs, k, b, d, rfl, rfl, ha, hb, hl, q1, q2⟩ := h
  cases rx
  obtain ⟨u1, u2, rfl, r1, r2⟩ := vals2 rxs
  cases r1
  obtain ⟨z, hd, xs', rel, dd⟩ := dt_of I.hok ha
  have hz : xs'.length ≤ sizeLine := by rw [← Paired.length rel]; exact z
  refine call_setdefault_heap (knd := tupleKind (mixKind X.prog X.w)) (hsz := hz) (tupleKind_room_in1 hu) (key_of I.hok hb) hd dd (fun p hp => ?_) fun hn h' dd' hs => ?_
  · have r := rel.val k
    rw [hp] at r
    obtain ⟨v0, ev, rv⟩ : ∃ v0, valV kvs k = some v0 ∧ RelV v0 p.2 := by
      cases ev : valV kvs k with
      | none =>
        rw [ev] at r
        exact (show False from r).elim
      | some v0 =>
        rw [ev] at r
        exact ⟨v0, rfl, r⟩
    show EP X pins σ Q p.2 _
    exact ⟨v0, _, I.tok _, rv, q1 v0 ev⟩
  · have r := rel.val k
    rw [hn] at r
    have e : valV kvs k = none := by
      cases ev : valV kvs k with
      | none => rfl
      | some v0 =>
        rw [ev] at r
        exact (show False from r).elim
    obtain ⟨o, es, ep, hq, h2, h3, h4, _, h5⟩ := dd'
    have hl2 : (putK kvs k d).length ≤ sizeLine := by have := length_putK kvs k d; omega
    have rel' := (rel.put k hb r2).keeps (H' := upd H a (.dT (putK kvs k d))) (fun c ys ec => (by rw [upd_ne (ne_of ec ha (fun z => nomatch z))]; exact ec))
    refine ⟨d, _, d_write (ob := .dT (putK kvs k d)) I (by rw [ha]; exact True.intro) hs ⟨o, hq⟩ ⟨hl2, hd, _, rel', o, es, ep, hq, h2, h3, h4, h5⟩, r2, q2 e⟩
def rValsT : V → List V → Hp → VK → Prop := fun x xs H Q => ∃ (a : Addr) (kvs : List (List L2.Key × V)), x = .ref a ∧ xs = [] ∧ H a = some (.dT kvs) ∧ ∀ p, H p = none → Q (.ref p) (upd H p (viewO "dict_values" p a))
theorem mt_valsT : MtR X "dict.values" rValsT := by
  intro pins s σ H x xs v us Q I rx rxs h
  obtain ⟨a, kvs, rfl, rfl, ha, q⟩ := h
  cases rx
  cases rxs
  obtain ⟨z, hd, xs', rel, o, es, ep, ho, hx, hdat, _⟩ := dt_of I.hok ha
  refine call_meetsIn PySem.F.slot_dict_values ⟨o, ho, hx.1⟩ PySem.F.entry_dict_values (PySem.F.args_dict_values_1 _) (?_ : MeetsIn X.prog X.w (Builtin.«dict.values» ⟨[.ref a], []⟩) (fun _ R s => (∃ o es ep, s.heap.get? a = some o ∧ o.ExactDict ∧ o.data = .dict es ep) ∧ R (.ok (.ret (.ref s.heap.objs.size))) { s with heap := s.heap.push { cls := .type "dict_values", data := .fields #[.ref a] } })) ⟨⟨o, es, ep, ho, hx, hdat⟩, ?_⟩
  · exact .of_wp fun A R s ⟨⟨o, es, ep, hm, hx, hdd⟩, h⟩ => by
      refine wpAny_bind ?_
      unfold Builtin.Dict.noArgs
      refine wpAny_bind (wpAny_notOrdered_dict ⟨o, hm, hx.1⟩ ?_)
      show wpAny _ _ (pure a) _ _ s
      refine wpAny_pure ?_
      show wpAny _ _ (Builtin.Dict.showsAll a >>= _) _ _ s
      unfold Builtin.Dict.showsAll
      rw [if_neg (by rw [hd]; exact Bool.false_ne_true)]
      refine wpAny_bind (wpAny_pure ?_)
      exact wpAny_bind (wpAny_newObj_type (wpAny_pure ⟨_, rfl, h⟩))
  have hf : H s.heap.objs.size = none := I.hok.fresh (Nat.le_refl _)
  exact ⟨.ref s.heap.objs.size, _, I.laid (t' := s.toks) (fun b u e => Heap.get?_push_of_some _ e) (Nat.le_refl _) (viewO_ok (Heap.get?_push_size _ rfl)), rfl, q _ hf⟩
/-- list(d.values()) -/
theorem kdl_vraw {prog : Program} {w : World} {p d : Addr} {o : Obj} {es : Array DictEntry} {ep : Nat} (hd : o.data = .dict es ep) :
    PySem.W.KdlSrc prog w "dict_values" p d es.size (fun i v => ∃ en : DictEntry, es[i]? = some en ∧ v = en.val) (fun h => h.get? p = some (DSub.viewOb "dict_values" d) ∧ h.get? d = some o) where
  type := fun _ hm => ⟨_, hm.1, rfl⟩
  there := fun _ hm => ⟨Heap.lt_size hm.1, Heap.lt_size hm.2⟩
  keep := fun _ _ hm hk => ⟨hk p (.inl rfl) _ hm.1, hk d (.inr rfl) _ hm.2⟩
  notList := by decide
  notTuple := by decide
  hint := fun _ _ s _ hm hq => PySem.W.kdl_hint_values (s := s) ⟨_, hm.1, rfl⟩ hq
  iter := fun _ s hh hm => ⟨_, _, (fun _ _ hq => DSub.iter_vals hm.1 hm.2 hd hq), DSub.walksVal hh (Nat.ne_of_lt (Heap.lt_size hm.2)) hd (fun i e he => ⟨e, he, rfl⟩), ⟨Heap.get?_push_size _ rfl, Heap.get?_push_of_some _ hm.2⟩⟩
def rListV : List V → Hp → VK → Prop := fun xs H Q => ∃ p a kvs, xs = [V.ref p] ∧ H p = some (viewO "dict_values" p a) ∧ H a = some (.dT kvs) ∧ ∀ l, H l = none → Q (.ref l) (upd H l (.lst (kvs.map (·.2))))
theorem call_listV (hc : X.calm = true) : CallR X (.type "list") rListV := by
  intro pins s σ H xs us Q I r h
  obtain ⟨p, a, kvs, rfl, hp, ha, q⟩ := h
  obtain rfl := Vals.ref1 r
  have hv : s.heap.get? p = some (DSub.viewOb "dict_values" a) := (show ObjOk X.prog X.w H s.heap p (viewO "dict_values" p a) from I.hok p _ hp).1
  obtain ⟨z, hs, ks, pr, o, es, ep, ho, hx, hdt, he, hn⟩ := dt_of I.hok ha
  have l1 : es.size = ks.length := size_of_entries he
  have l2 : kvs.length = ks.length := Paired.length pr
  refine PySem.W.kdl_call (kdl_vraw hdt) (I.ok.hd hc) ⟨hv, ho⟩ (by omega) fun h' tk acc' c' kp e it => ?_
  have ea : acc'.toList = ks.map fun x => x.2.2 := by
    have hl : acc'.toList.length = ks.length := by rw [Array.length_toList, it.1]; exact l1
    apply List.ext_getElem?
    intro j
    rw [List.getElem?_map]
    cases hj : acc'.toList[j]? with
    | none =>
      have h1 := List.getElem?_eq_none_iff.mp hj
      rw [List.getElem?_eq_none (by omega)]
      all_goals rfl
    | some v =>
      obtain ⟨en, hen, hv⟩ := it.2 j v (by rw [← Array.getElem?_toList]; exact hj)
      have qe := entry_at he j
      rw [hen] at qe
      cases hb : ks[j]? with
      | none =>
        rw [hb] at qe
        exact nomatch (show some en = none from qe)
      | some b =>
        rw [hb] at qe
        have e2 : en = entryOfKey (tupleKind (mixKind X.prog X.w)) b := Option.some.inj qe
        rw [hv, e2]
        all_goals rfl
  have rv : Vals (kvs.map (·.2)) acc'.toList := by
    rw [ea]
    clear ea it he hn l1 l2 z q ha
    induction pr with
    | nil => exact .nil
    | cons h t ih => exact .cons h.2.2 ih
  refine ⟨.ref s.heap.objs.size, _, I.laid (t' := tk) (o := .lst (kvs.map (·.2))) kp (Nat.le_refl _) ?_, rfl, q _ (I.hok.fresh (Nat.le_refl _))⟩
  exact ⟨by rw [List.length_map]; exact z, acc'.toList, c', rv, by rw [Array.toArray_toList]; exact e⟩
/-! ### sorted of data -/
def rSortedD (K : PySem.W.Frag) : List V → Hp → VK → Prop := fun vs H Q => ∃ (a : Addr) (xs : List V) (ds : List PyData) (P : V → PyData → Prop), vs = [V.ref a] ∧ SqL K H a xs ∧ Paired P xs ds ∧ (∀ x d, P x d → Dp K H x d) ∧ PySem.W.AllAlike ds ∧ PySem.W.Sortable ds ∧ (∀ d ∈ ds, d.depth ≤ 60) ∧
  ∀ ys p, Paired P ys (ds.mergeSort (PySem.W.dataLe false id)) → H p = none → Q (.ref p) (upd H p (.lst ys))
theorem each_of {pins : List (Addr × Obj)} {σ : L2.St} {H : Hp} {s : Shared} (I : Inv X pins σ H s) {P : V → PyData → Prop} (hP : ∀ x d, P x d → Dp X.K H x d) : ∀ {xs : List V} {ds : List PyData} {its : List Value}, Paired P xs ds → Vals xs its →
    PySem.W.EachIs (fun u d => ∃ x, RelV x u ∧ P x d) its ds ∧ PySem.W.EachIs (fun v d => ∃ as, Reads s.heap v d as) its ds
  | _, _, _, .nil, .nil => ⟨.nil, .nil⟩
  | _, _, _, .cons h t, .cons r u => by
    obtain ⟨a, b⟩ := each_of I hP t u
    exact ⟨.cons ⟨_, r, h⟩ a, .cons (Dp.reads I _ _ _ (hP _ _ h) r) b⟩
theorem each_back {P : V → PyData → Prop} : ∀ {out : List Value} {ds : List PyData}, PySem.W.EachIs (fun u d => ∃ x, RelV x u ∧ P x d) out ds → ∃ ys, Vals ys out ∧ Paired P ys ds
  | _, _, .nil => ⟨[], .nil, .nil⟩
  | _, _, .cons ⟨x, h1, h2⟩ t => by
    obtain ⟨ys, a, b⟩ := each_back t
    exact ⟨x :: ys, .cons h1 a, .cons h2 b⟩
theorem cr_sortedD (hu : X.A.units + 64 < cLine) : CallR X (.builtin "sorted") (rSortedD X.K) := by
  intro pins s σ H vs us Q I r h
  obtain ⟨a, xs, ds, P, rfl, hs, hp, hP, hal, hk, hdp, q⟩ := h
  obtain ⟨its, rv, hl, hz⟩ := I.list hs
  obtain rfl := Vals.ref1 r
  obtain ⟨e1, e2⟩ := each_of I hP hp rv
  have hlen : ds.length ≤ sizeLine := by rw [← Paired.length hp]; exact hz
  refine PySem.W.sorted_data (enc := id) (bs := ds) hl.isList e1 e2 (by rw [List.map_id]; exact hal) (by rw [List.map_id]; exact hk) hlen (fun b hb => by have := hdp b hb; show X.A.units + 2 + b.depth < cLine; omega) fun out ho heo => ?_
  obtain ⟨ys, v1, v2⟩ := each_back heo
  obtain ⟨n, hn⟩ := sortedAll_at s.heap its out.toArray
  refine ⟨.ref (s.heap.objs.size + 1), _, I.laid (t' := s.toks) (o := .lst ys) (fun b o e => sortedAll_old e) (Nat.le_succ _) ⟨?_, out, n, v1, hn⟩, rfl, q _ _ v2 (I.hok.fresh (Nat.le_succ _))⟩
  rw [Vals.length v1, ho]; exact hlen
/-! ### sorted(d): its keys, pairs of ints -/
def rSortedT2 : List V → Hp → VK → Prop := fun vs H Q => ∃ (d : Addr) (kvs : List (List L2.Key × V)) (ps : List FX.PI2), vs = [V.ref d] ∧ H d = some (.dT kvs) ∧ kvs.map (·.1) = ps.map (fun p => [Sum.inl p.1, Sum.inl p.2]) ∧
  ∀ ys l, Paired (fun y p => FD.Rep H y (FX.dP p)) ys (FX.sortP ps) → H l = none → Q (.ref l) (upd H l (.lst ys))
theorem sort_is (ps : List FX.PI2) : ps.mergeSort (PySem.W.dataLe false FX.dP) = FX.sortP ps := by
  unfold FX.sortP
  have e : PySem.W.dataLe false FX.dP = FX.leP := by
    have := PySem.W.dataLe_ii (fun p : FX.PI2 => p.1) (fun p : FX.PI2 => p.2)
    exact this
  rw [e]
theorem keys_each {pins : List (Addr × Obj)} {σ : L2.St} {H : Hp} {s : Shared} (I : Inv X pins σ H s) {h2 : Heap} {a : Addr} (kb : ∀ b o, s.heap.get? b = some o → h2.get? b = some o) : ∀ {ps : List FX.PI2} {kvs : List (List L2.Key × V)} {ks : List (List L2.Key × Addr × Value)}, kvs.map (·.1) = ps.map (fun p => [Sum.inl p.1, Sum.inl p.2]) → KT H kvs ks →
    PySem.W.EachIs (fun v p => ∃ x, RelV x v ∧ FD.Rep H x (FX.dP p)) (ks.map fun x => Value.ref x.2.1) ps ∧ PySem.W.EachIs (fun v p => ∃ as, Reads h2 v (FX.dP p) as ∧ a ∉ as) (ks.map fun x => Value.ref x.2.1) ps
  | [], [], _, _, .nil => ⟨.nil, .nil⟩
  | p :: ps, kv :: kvs, _, e, .cons (b := q) (l₂ := ks) h t => by
    simp only [List.map_cons, List.cons.injEq] at e
    obtain ⟨i1, i2⟩ := keys_each I kb (a := a) e.2 t
    have hb : H q.2.1 = some (.tup [.int p.1, .int p.2]) := by
      have := h.2.1
      rw [e.1] at this
      exact this
    refine ⟨.cons ⟨.ref q.2.1, rfl, .tup hb (.cons (.int _) (.cons (.int _) .nil))⟩ i1, .cons ⟨[], ?_, fun z => by cases z⟩ i2⟩
    obtain ⟨_, its, r2, o, ho, hc, n, hd⟩ := I.hok _ _ hb
    obtain ⟨u1, u2, rfl, ri, rj⟩ := vals2 r2
    obtain ⟨t1, rfl⟩ := ri
    obtain ⟨t2, rfl⟩ := rj
    exact .tuple (kb _ _ ho) hc hd (.cons (.int _ _) (.cons (.int _ _) .nil))
theorem pairs_back {H : Hp} : ∀ {out : List Value} {ps : List FX.PI2}, PySem.W.EachIs (fun v p => ∃ x, RelV x v ∧ FD.Rep H x (FX.dP p)) out ps → ∃ ys, Vals ys out ∧ Paired (fun y p => FD.Rep H y (FX.dP p)) ys ps
  | _, _, .nil => ⟨[], .nil, .nil⟩
  | _, _, .cons ⟨x, h1, h2⟩ t => by
    obtain ⟨ys, a, b⟩ := pairs_back t
    exact ⟨x :: ys, .cons h1 a, .cons h2 b⟩
theorem cr_sortedT2 (hc : X.calm = true) (hu : X.A.units + 64 < cLine) : CallR X (.builtin "sorted") rSortedT2 := by
  intro pins s σ H vs us Q I r h
  obtain ⟨d, kvs, ps, rfl, hd, hk, q⟩ := h
  obtain rfl := Vals.ref1 r
  obtain ⟨z, hs, ks, pr, o, es, ep, ho, hx, hdt, he, hn⟩ := dt_of I.hok hd
  have l1 : es.size = ks.length := size_of_entries he
  have l2 : kvs.length = ks.length := Paired.length pr
  have l3 : kvs.length = ps.length := by have := congrArg List.length hk; simpa using this
  refine PySem.Calls.call_function_entry PyProof.Rows.kind_sorted PyProof.Rows.plain_sorted PyProof.Rows.entry_sorted (PyProof.Rows.args_sorted1 _) ?_
  unfold Builtin.«sorted»
  refine wpAny_bind (m := checkCount "sorted" 1 1 _) (wpAny_pure ?_)
  refine wpAny_bind (PySem.W.kdu_collect (A := X.A.in1) (kdl_raw hs hx hdt) (I.ok.hd hc) ho (by omega) fun h' tk acc hkp hacc => ?_)
  have hl : acc.toList.length = es.size := by rw [Array.length_toList]; exact hacc.1
  refine wpAny_bind (wpAny_newList ?_ (by rw [hl]; omega))
  have hob : (h'.push { cls := .type "list", data := .seq acc.toList.toArray }).get? h'.objs.size = some (seqObj "list" acc.toList.toArray 0) := Heap.get?_push_size _ rfl
  have kb : ∀ b o, s.heap.get? b = some o → (h'.push { cls := .type "list", data := .seq acc.toList.toArray }).get? b = some o := fun b o e => Heap.get?_push_of_some _ (hkp b o e)
  have hg : s.heap.get? h'.objs.size = none := by
    cases e : s.heap.get? h'.objs.size with
    | none => rfl
    | some u => exact absurd (Heap.lt_size (hkp _ _ e)) (Nat.lt_irrefl _)
  have hH : H h'.objs.size = none := I.hok.gone hg
  have ea : acc.toList = ks.map fun x => Value.ref x.2.1 := by
    apply List.ext_getElem?
    intro j
    rw [List.getElem?_map]
    cases hj : acc.toList[j]? with
    | none =>
      have h1 := List.getElem?_eq_none_iff.mp hj
      rw [List.getElem?_eq_none (by omega)]
      all_goals rfl
    | some v =>
      obtain ⟨en, hen, hv⟩ := hacc.2 j v (by rw [← Array.getElem?_toList]; exact hj)
      have qe := entry_at he j
      rw [hen] at qe
      cases hb : ks[j]? with
      | none =>
        rw [hb] at qe
        exact nomatch (show some en = none from qe)
      | some b =>
        rw [hb] at qe
        have e2 : en = entryOfKey (tupleKind (mixKind X.prog X.w)) b := Option.some.inj qe
        rw [hv, e2]
        all_goals rfl
  obtain ⟨e1, e2⟩ := keys_each I kb (a := h'.objs.size) hk pr
  rw [← ea] at e1 e2
  refine wpAny_bind (wpAny_holding (wpAny_mono (PySem.W.list_sort_data (s := { s with heap := h'.push { cls := .type "list", data := .seq acc.toList.toArray }, toks := tk }) (enc := FX.dP) (bs := ps) (R := fun v p => ∃ x, RelV x v ∧ FD.Rep H x (FX.dP p)) hob e1 e2 ?_ ?_ ?_ ?_
    (Q := fun _ s' => EP X pins σ Q (.ref h'.objs.size) s') fun out ho heo => ?_) (fun _ s' x => ?_) fun _ _ e => e))
  · intro x hx y hy
    obtain ⟨p, _, rfl⟩ := List.mem_map.mp hx
    obtain ⟨p', _, rfl⟩ := List.mem_map.mp hy
    rfl
  · exact .inl fun x hx => by
      obtain ⟨p, _, rfl⟩ := List.mem_map.mp hx
      exact ⟨_, _, rfl⟩
  · omega
  · intro b _
    show X.A.in1.units + 1 + (FX.dP b).depth < cLine
    have : (FX.dP b).depth = 1 := by simp [PyData.depth, PyData.depthAll]
    rw [this]
    show X.A.units + 1 + 1 + 1 < cLine
    omega
  · rw [sort_is] at heo
    obtain ⟨ys, v1, v2⟩ := pairs_back heo
    obtain ⟨n, hn⟩ := sortedHeap_at (out := out.toArray) hob
    refine ⟨.ref h'.objs.size, upd H h'.objs.size (.lst ys), I.laidN (t' := tk) (fun b u e => ?_) hg hH ⟨?_, out, n, v1, hn⟩, rfl, q ys _ v2 hH⟩
    · have hb : b < h'.objs.size := Heap.lt_size (hkp _ _ e)
      rw [sortedHeap_old (Nat.ne_of_lt hb) (Heap.lt_size (kb _ _ e))]
      exact kb _ _ e
    · rw [Vals.length v1, ho]; omega
  · exact wpAny_pure ⟨_, rfl, x⟩
end
end FY

set_option Elab.async false
set_option linter.all false
set_option maxRecDepth 100000
set_option maxHeartbeats 1000000
set_option autoImplicit false
/-! the layer, more: dicts with tuple keys, dicts of lists, a cell handed to a def -/
namespace FZ
open PySem L2 FD
open Evl (Ex)
abbrev xListT : List V → Hp → VK → Prop := fun xs H Q => ∃ d kvs, xs = [V.ref d] ∧ Rd H d (.dT kvs) ∧ ∀ p bs, H p = none → IsKeys H kvs bs → Q (.ref p) (upd H p (.lst (bs.map V.ref)))
section
variable {B : Base} {Δ : List Sd} {C C' : Cs} {σ : L2.St} {H F : Hp} {ta tb te tx : TE} {tu tz : TS} {D : Ends} {K : PySem.W.Frag} {s : Sd}
theorem pgetL {α β : Type} {P : α → β → Prop} : ∀ {l₁ : List α} {l₂ : List β} {j : Nat} {x : α}, Paired P l₁ l₂ → l₁[j]? = some x → ∃ y, l₂[j]? = some y ∧ P x y
  | _, _, j, x, .nil, h => by simp at h
  | _, _, 0, x, .cons (b := y) f _, h => by
    simp only [List.getElem?_cons_zero] at h
    cases h
    exact ⟨y, rfl, f⟩
  | _, _, j + 1, x, .cons _ t, h => by
    simp only [List.getElem?_cons_succ] at h
    obtain ⟨y, h1, h2⟩ := pgetL (j := j) t h
    exact ⟨y, (by rw [List.getElem?_cons_succ]; exact h1), h2⟩
theorem sz_lt {n : Nat} (h : n < 100000) : n < sizeLine := by rw [sizeLine_eq]; omega
/-! ### the cells in another order -/
theorem _root_.FD.St.perm (h : St B Δ C σ H F) (p : C.Perm C') : St B Δ C' σ H F := ⟨h.ff, h.fh, fun a o n e => h.hh a o (fun z => n ((p.map (·.1)).mem_iff.mp z)) e, h.gr, h.sl, fun c hc => h.ce c (p.mem_iff.mpr hc), (p.map (·.1)).nodup_iff.mp h.nd, h.gg⟩
theorem wp_perm (p : C.Perm C') (h : WP B Δ C' tu D) : WP B Δ C tu D := fun σ H ⟨F, hs⟩ => h σ H ⟨F, hs.perm p⟩
theorem nx_perm {P : L2.St → Hp → Prop} (p : C.Perm C') (h : Nx B Δ C' P) : Nx B Δ C P := fun σ H ⟨F, hs⟩ => h σ H ⟨F, hs.perm p⟩
/-! ### a cell handed to a def, which changes it -/
def PostC (F Hm : Hp) (x : Addr) (c : Cd) (Q : VK) (H : Hp) : Prop := ∀ F' H' o, Ex F F' → Ex F' H' → (∀ b u, b ≠ x → H b = some u → H' b = some u) → (∀ b, F' b ≠ none → F b ≠ none ∨ Hm b = none ∨ IsT Hm b) → F' x = none → H' x = some o → CellOk F' o c → Q .non H'
def SpC (R : Hp → Hp → Cd → List Sd → Cd → Prop) : Sp := fun vs H Q _ => ∃ F Hm x ws ss c c', vs = .ref x :: ws ∧ Ex F H ∧ Ex F Hm ∧ Hm x = none ∧ (∀ a, a ≠ x → Hm a = H a) ∧ (∃ o, H x = some o ∧ CellOk F o c) ∧ SlA F ws ss ∧ R F Hm c ss c' ∧ PostC F Hm x c' Q H
theorem s_callC {R : Hp → Hp → Cd → List Sd → Cd → Prop} {E : XK} {tr : TA} {k : Nat} {x : Addr} {c c' : Cd} {ss : List Sd} (hc : C[k]? = some (x, c)) (h : EvA B Δ C tr (.v (.ref x) :: ss)) (hR : ∀ F Hm, R F Hm c ss c') (kk : Nx B Δ (C.set k (x, c')) D.nx) : WP B Δ C (tDrop (tCall (SpC R) [] E tr)) D := fun σ H ⟨F, hs⟩ =>
  h σ H F hs _ fun vs F1 H1 h1 e1 e1' w1 => by
    cases w1 with | cons w0 w1 =>
    cases w0
    obtain ⟨fx, o, ho, co⟩ := h1.cell hc
    refine ⟨F1, fun b => if b = x then none else H1 b, x, _, ss, c, c', by rw [List.append_nil], h1.fh, fun b u e => ?_, by simp, fun b hb => by simp [hb], ⟨o, ho, co⟩, w1, hR _ _, fun F' H' o' f1 f2 f3 f4 f5 f6 f7 => kk σ H' ⟨F', ?_⟩⟩
    · have nb : b ≠ x := fun z => by rw [z, fx] at e; cases e
      simp [nb]; exact h1.fh _ _ e
    · have hk : k < C.length := (List.getElem?_eq_some_iff.mp hc).1
      refine ⟨h1.ff.trans f1, f2, fun a u n q => ?_, fun a n => ?_, h1.sl.mono f1, fun y hy => ?_, ?_, fun g hg => (h1.gg g hg).mono f1⟩
      · rw [map_set_fst C k x c c' hc] at n
        have na : a ≠ x := fun z => n (List.mem_map.mpr ⟨(x, c), List.mem_of_getElem? hc, z.symm⟩)
        exact f3 a u na (h1.hh a u n q)
      · rcases f4 a n with z | z | ⟨ys, z⟩
        · exact h1.gr a z
        · by_cases ha : a = x
          · subst ha; exact absurd f5 n
          · simp [ha] at z; exact .inr (.inl (h1.free z))
        · by_cases ha : a = x
          · subst ha; exact absurd f5 n
          · simp [ha] at z; exact .inr (h1.isT ⟨ys, z⟩)
      · obtain ⟨i, hi, ex⟩ := List.getElem_of_mem hy
        rw [List.length_set] at hi
        rw [List.getElem_set] at ex
        by_cases ik : k = i
        · rw [if_pos ik] at ex
          subst ex
          exact ⟨f5, o', f6, f7⟩
        · rw [if_neg ik] at ex
          have hy' : y ∈ C := by rw [← ex]; exact List.getElem_mem _
          obtain ⟨g1, u, g2, g3⟩ := h1.ce y hy'
          have ny : y.1 ≠ x := fun z => by
            have h5 : (C.map (·.1))[i]? = some x := by rw [List.getElem?_map, List.getElem?_eq_getElem hi, ex]; simp [z]
            have h6 : (C.map (·.1))[k]? = some x := by rw [List.getElem?_map, hc]; rfl
            have hk : k < (C.map (·.1)).length := (List.getElem?_eq_some_iff.mp h6).1
            exact ik ((List.getElem?_inj hk h1.nd).mp (by rw [h5, h6]))
          refine ⟨?_, u, f3 _ _ ny g2, g3.mono f1⟩
          cases q : F' y.1 with
          | none => rfl
          | some v =>
            rcases f4 y.1 (by rw [q]; simp) with z | z | ⟨ys, z⟩
            · exact absurd g1 z
            · simp [ny] at z; rw [z] at g2; cases g2
            · simp [ny] at z; rw [z] at g2; exact absurd (Option.some.inj g2).symm (g3.nt ys)
      · rw [map_set_fst C k x c c' hc]; exact h1.nd
theorem q_callC {R : Hp → Hp → Cd → List Sd → Cd → Prop} {E : XK} {tr : TA} {k : Nat} {x : Addr} {c c' : Cd} {ss : List Sd} (hc : C[k]? = some (x, c)) (h : EvA B Δ C tr (.v (.ref x) :: ss)) (hR : ∀ F Hm, R F Hm c ss c') (kk : WP B Δ (C.set k (x, c')) tz D) : WP B Δ C (tSeq (tDrop (tCall (SpC R) [] E tr)) tz) D := s_callC (D := { D with nx := tz D }) hc h hR kk
/-- such a def begins, and ends -/
theorem enterC {R : Hp → Hp → Cd → List Sd → Cd → Prop} {N : List Str} {vs : List V} {Q : VK} {E : XK} {t : TS} (h : SpC R vs H Q E) (k : ∀ F Hm x ss c c', R F Hm c ss c' → (∀ Δ', Nx ⟨F, Hm, []⟩ Δ' [(x, c')] (fun _ H' => Q .non H')) → WP ⟨F, Hm, []⟩ ((.v (.ref x) :: ss) ++ List.replicate (N.length - (Sd.v (.ref x) :: ss).length) .no) [(x, c)] t D) : t D (L2.start N vs) H := by
  obtain ⟨F, Hm, x, ws, ss, c, c', rfl, hf, hfm, hx, hm, ⟨o, ho, co⟩, ha, hr, hq⟩ := h
  have fx : F x = none := by
    cases e : F x with
    | none => rfl
    | some o => rw [hfm x o e] at hx; cases hx
  have h1 : SlA F (V.ref x :: ws) (.v (.ref x) :: ss) := .cons rfl ha
  have h0 := St.start (N := N) hf h1
  refine k F Hm x ss c c' hr (fun Δ' σ H' ⟨F', q⟩ => ?_) _ H ⟨F, Ex.refl F, hf, fun a o n e => ?_, fun a n => .inl n, h0.sl, fun c0 hc => ?_, by simp, fun c hc => by cases hc⟩
  · obtain ⟨f5, o', f6, f7⟩ := q.ce (x, c') List.mem_cons_self
    refine hq F' H' o' q.ff q.fh (fun b u nb e => q.hh b u (by simpa using nb) ?_) q.gr f5 f6 f7
    show Hm b = some u
    rw [hm b nb]; exact e
  · have na : a ≠ x := fun z => n (by simp [z])
    rw [← hm a na]; exact e
  · have hc : c0 = (x, c) := by simpa using hc
    subst hc; exact ⟨fx, o, ho, co⟩
/-! ### the keys of a dict -/
def keyT (k : List Key) : PyData := .tuple (k.map keyD)
theorem rep_keys {F : Hp} : ∀ k : List Key, RepA F (k.map kV) (k.map keyD)
  | [] => .nil
  | .inl i :: k => .cons (.int i) (rep_keys k)
  | .inr x :: k => .cons (.str x) (rep_keys k)
theorem St.absorbK : ∀ {vs : List (List Key × V)} {bs : List Addr} {F : Hp}, St B Δ C σ H F → IsKeys H vs bs → ∃ F', Ex F F' ∧ St B Δ C σ H F' ∧ RepA F' (bs.map V.ref) (vs.map fun kv => keyT kv.1)
  | _, _, F, h, .nil => ⟨F, Ex.refl F, h, .nil⟩
  | kv :: vs, b :: bs, F, h, .cons e t => by
    obtain ⟨h1, x1⟩ := h.absorb e
    obtain ⟨F', x2, h2, r⟩ := St.absorbK h1 t
    exact ⟨F', x1.trans x2, h2, .cons (.tup (x2 _ _ upd_same) (rep_keys _)) r⟩
theorem kvA_keys {F : Hp} {vs : List (List Key × V)} {kvs : List (List Key × Sd)} (h : KvA F vs kvs) : vs.map (·.1) = kvs.map (·.1) := by
  induction h with
  | nil => rfl
  | cons r t ih => rw [List.map_cons, List.map_cons, ih, r.1]
/-- list(d) -/
theorem evN_listKT {k : Nat} {l : Addr} {kvs : List (List Key × Sd)} (hc : C[k]? = some (l, .dt kvs)) (ho : Ev B Δ C ta (.v (.ref l))) : EvN B Δ C (tCB xListT (tCons ta tNil)) (.lst ((kvs.map fun kv => keyT kv.1).map Sd.d)) := fun σ H F hs Q q => ho σ H F hs _ fun v F1 H1 h1 e1 e1' w => by
  cases w
  obtain ⟨vs, hx, kv⟩ := cell_dt h1 hc
  refine ⟨l, vs, rfl, .inl hx, fun p bs hp ik => ?_⟩
  obtain ⟨F2, e2, h2, r⟩ := St.absorbK h1 ik
  have r : RepA F2 (bs.map V.ref) (kvs.map fun kv => keyT kv.1) := by
    have e : (kvs.map fun kv => keyT kv.1) = vs.map fun kv => keyT kv.1 := by
      have := congrArg (List.map keyT) (kvA_keys kv)
      rw [List.map_map, List.map_map] at this
      exact this.symm
    rw [e]; exact r
  exact (q.later (e1.trans e2) e1').made h2 ⟨_, rfl, r.sl⟩ p hp
/-- sorted(d) -/
theorem St.absorbP : ∀ {ys : List V} {ps : List FX.PI2} {F : Hp}, St B Δ C σ H F → Paired (fun y p => Rep H y (FX.dP p)) ys ps → ∃ F', Ex F F' ∧ St B Δ C σ H F' ∧ RepA F' ys (ps.map FX.dP)
  | _, _, F, h, .nil => ⟨F, Ex.refl F, h, .nil⟩
  | y :: ys, p :: ps, F, h, .cons e t => by
    obtain ⟨a, xs, rfl, ea, r⟩ := Rep.tup_inv e
    obtain ⟨h1, x1⟩ := h.absorb ea
    obtain ⟨F', x2, h2, r'⟩ := St.absorbP h1 t
    refine ⟨F', x1.trans x2, h2, .cons (.tup (x2 _ _ upd_same) ?_) r'⟩
    cases r with | cons r1 r => cases r with | cons r2 r =>
    cases r; cases r1; cases r2
    exact .cons (.int _) (.cons (.int _) .nil)
theorem rcN_sortT2 {k : Nat} {l : Addr} {kvs : List (List Key × Sd)} {ps : List FX.PI2} (hc : C[k]? = some (l, .dt kvs)) (hk : kvs.map (·.1) = ps.map (fun p => [Sum.inl p.1, Sum.inl p.2])) : RCN B Δ C FY.rSortedT2 [.v (.ref l)] (.lst ((FX.sortP ps).map fun p => .d (FX.dP p))) := fun σ H F hs xs w Q q => by
  cases w with | cons w w' =>
    cases w'; cases w
    obtain ⟨vs, hx, kv⟩ := cell_dt hs hc
    refine ⟨l, vs, ps, rfl, hx, by rw [kvA_keys kv]; exact hk, fun ys p hp hn => ?_⟩
    obtain ⟨F2, e2, h2, r⟩ := St.absorbP hs hp
    refine (q.later e2 (Ex.refl H)).made h2 ⟨_, rfl, ?_⟩ p hn
    have := r.sl
    rw [List.map_map] at this
    exact this
/-- sorted of data -/
theorem pairedRep {F : Hp} : ∀ {ds : List PyData} {xs : List V}, RepA F xs ds → Paired (fun x d => Rep F x d) xs ds
  | [], _, .nil => .nil
  | _ :: _, _, .cons h t => .cons h (pairedRep t)
theorem repPaired {F : Hp} : ∀ {ds : List PyData} {xs : List V}, Paired (fun x d => Rep F x d) xs ds → RepA F xs ds
  | _, _, .nil => .nil
  | _, _, .cons h t => .cons h (repPaired t)
theorem rcN_sortD {ds : List PyData} (h1 : PySem.W.AllAlike ds) (h2 : PySem.W.Sortable ds) (h3 : ∀ d ∈ ds, d.depth ≤ 60) : RCN B Δ C (FY.rSortedD K) [.d (.list ds)] (.lst ((ds.mergeSort (PySem.W.dataLe false id)).map Sd.d)) := fun σ H F hs xs w Q q => by
  cases w with | cons w w' =>
    cases w'
    obtain ⟨a, xs, rfl, e, r⟩ := Rep.lst_inv w
    exact ⟨a, xs, ds, fun x d => Rep F x d, rfl, SqL.of (hs.fh _ _ e), pairedRep r, fun x d h => Rep.dp _ _ (Rep.mono hs.fh _ _ h), h1, h2, h3, fun ys p hy hp => q.made hs ⟨_, rfl, (repPaired hy).sl⟩ p hp⟩
/-- list(d.values()) -/
theorem evN_listV {k : Nat} {l : Addr} {kvs : List (List Key × Sd)} (hc : C[k]? = some (l, .dt kvs)) (ho : Ev B Δ C ta (.v (.ref l))) : EvN B Δ C (tCB FY.rListV (tCons (tBM0 K "dict" FY.rValsT ta) tNil)) (.lst (kvs.map (·.2))) := fun σ H F hs Q q => ho σ H F hs _ fun v F1 H1 h1 e1 e1' w => by
  cases w
  obtain ⟨vs, hx, kv⟩ := cell_dt h1 hc
  refine ⟨.inr (.inr (.inl ⟨rfl, .inr ⟨vs, hx⟩⟩)), l, vs, rfl, rfl, hx, fun p hp => ?_⟩
  have hn : l ≠ p := ne_of_none hx hp
  refine ⟨p, l, vs, rfl, upd_same, by rw [upd_ne hn]; exact hx, fun z hz => ?_⟩
  have h2 := h1.grow (Ex.refl F1) (Ex.new (o := viewO "dict_values" p l) hp) (fun a o e => by rw [upd_ne (ne_of_none (h1.fh _ _ e) hp)]; exact h1.fh _ _ e) (fun a n => .inl n) (fun a q => h1.free q)
  refine (q.later e1 (e1'.trans (Ex.new hp))).made h2 ⟨_, rfl, ?_⟩ z hz
  clear hx q hc
  induction kv with
  | nil => exact .nil
  | cons r t ih => exact .cons r.2 ih
/-- {i: e} -/
theorem evN_dispK {i : Key} (hk : ∀ C', Ev B Δ C' ta (.d (keyD i))) (he : ∀ C', Ev B Δ C' te s) : EvN B Δ C (tDisp [(ta, te)]) (.dk [(i, s)]) := fun σ H F hs Q q => fun p hp => by
  have h1 := hs.newC hp (o := .dK []) (c := .dk []) ⟨[], rfl, .nil⟩
  refine hk _ σ _ F h1 _ fun x F1 H1 h2 e1 e1' w1 => he _ σ H1 F1 h2 _ fun y F2 H2 h3 e2 e2' w2 => ?_
  obtain ⟨vs, ho, kv⟩ := cell_dk (k := 0) h3 rfl
  cases kv
  refine ⟨ho, [(i, y)], by rw [Rep.key w1]; rfl, by simp, ?_⟩
  have h4 := h3.put (k := 0) rfl (c' := .dk [(i, s)]) (o := .dK [(i, y)]) ⟨_, rfl, .cons ⟨rfl, w2⟩ .nil⟩
  exact q p F2 _ h4 (e1.trans e2) (Ex.mut ((Ex.new hp).trans (e1'.trans e2')) hp) hp
/-- d.setdefault(x, []).append(e) -/
theorem s_setdApp {k : Nat} {l : Addr} {kvs : List (List Key × Sd)} {x : List Key} (hc : C[k]? = some (l, .dt kvs)) (ho : Ev B Δ C ta (.v (.ref l))) (hx : Ev B Δ C tb (.d (keyT x))) (he : ∀ C', Ev B Δ C' te s) (hz : kvs.length < 100000)
    (there : ∀ sd, lookA kvs x = some sd → ∃ m g ss, sd = .v (.ref g) ∧ C[m]? = some (g, .lst ss) ∧ ss.length < 100000 ∧ Nx B Δ (C.set m (g, .lst (ss ++ [s]))) D.nx)
    (new : lookA kvs x = none → ∀ p, B.H p = none → Nx B Δ ((p, .lst [s]) :: C.set k (l, .dt (putA kvs x (.v (.ref p))))) D.nx) :
    WP B Δ C (tDrop (tBM K "list" rAppend (tBM K "dict" FY.rSetdT ta (tCons tb (tCons (tLst tNil) tNil))) (tCons te tNil))) D := fun σ H ⟨F, hs⟩ =>
  ho σ H F hs _ fun v F1 H1 h1 e1 e1' w => by
    cases w
    obtain ⟨vs, hxx, _⟩ := cell_dt h1 hc
    refine ⟨.inr (.inr (.inl ⟨rfl, .inr ⟨vs, hxx⟩⟩)), hx σ H1 F1 h1 _ fun y F2 H2 h2 e2 e2' w2 => evN_lst0 σ H2 F2 h2 _ fun p F3 H3 h3 e3 e3' hp => ?_⟩
    obtain ⟨b, xs, rfl, hb, rx⟩ := Rep.tup_inv w2
    rw [rx.keys] at hb
    obtain ⟨vs, hv, kv⟩ := cell_dt (k := k + 1) h3 hc
    have lp : l ≠ p := by
      intro z
      obtain ⟨vs', hv', _⟩ := cell_dt h2 hc
      rw [z, hp] at hv'; cases hv'
    refine ⟨l, vs, x, b, .ref p, rfl, rfl, hv, h3.fh _ _ (e3 _ _ hb), sz_lt (by rw [kv.length]; exact hz), fun u hu => ?_, fun hn => ?_⟩
    · rcases kv.look x with ⟨a1, _⟩ | ⟨u', sd, a1, a2, a3⟩
      · rw [a1] at hu; cases hu
      · rw [a1] at hu; cases hu
        obtain ⟨m, g, ss, rfl, hm, hl, kk⟩ := there sd a2
        cases a3
        have h4 := h3.dropC (h2.free hp)
        obtain ⟨_, o, hg, xs', rfl, _⟩ := h4.cell hm
        refine ⟨.inl ⟨rfl, xs', SqL.of hg⟩, he _ σ _ F3 h4 _ fun y F5 H5 h5 e5 e5' w5 => ?_⟩
        obtain ⟨_, o, hg, xs', rfl, r⟩ := h5.cell hm
        exact ⟨g, xs', y, rfl, rfl, hg, sz_lt (by rw [r.length]; exact hl), kk _ _ ⟨F5, h5.put hm ⟨_, rfl, r.append (.cons w5 .nil)⟩⟩⟩
    · have hl : lookA kvs x = none := by
        rcases kv.look x with ⟨_, a2⟩ | ⟨u', sd, a1, _, _⟩
        · exact a2
        · rw [a1] at hn; cases hn
      have h4 := h3.put (k := k + 1) hc (c' := .dt (putA kvs x (.v (.ref p)))) (o := .dT (putK vs x (.ref p))) ⟨_, rfl, kv.put x (s := .v (.ref p)) rfl⟩
      have h4 : St B Δ ((p, .lst []) :: C.set k (l, .dt (putA kvs x (.v (.ref p))))) σ (upd H3 l (.dT (putK vs x (.ref p)))) F3 := h4
      obtain ⟨_, o, hg, xs', rfl, _⟩ := h4.cell (k := 0) rfl
      refine ⟨.inl ⟨rfl, xs', SqL.of hg⟩, he _ σ _ F3 h4 _ fun y F5 H5 h5 e5 e5' w5 => ?_⟩
      obtain ⟨_, o, hg, xs', rfl, r⟩ := h5.cell (k := 0) rfl
      cases r
      exact ⟨p, [], y, rfl, rfl, hg, sz_lt (by simp), new hl p (h2.free hp) _ _ ⟨F5, h5.put (k := 0) rfl ⟨_, rfl, .cons w5 .nil⟩⟩⟩
/-- a list of ours, made since H0 -/
def NewD (H0 : Hp) (ds : List PyData) : Mono := ⟨fun F v => Rep F v (.list ds) ∧ ∃ a, v = .ref a ∧ H0 a = none, fun F F' v e h => ⟨Rep.mono e _ _ h.1, h.2⟩⟩
/-- a list that stands, its items told -/
def LstM (ss : List Sd) : Mono := ⟨fun F v => ∃ a xs, v = .ref a ∧ F a = some (.lst xs) ∧ SlA F xs ss, fun F F' v e h => by obtain ⟨a, xs, h1, h2, h3⟩ := h; exact ⟨a, xs, h1, e _ _ h2, h3.mono e⟩⟩
theorem ev_lstM {ss : List Sd} (h : EvN B Δ C te (.lst ss)) : Ev B Δ C te (.p (LstM ss)) := fun σ H F hs Q q => h σ H F hs Q fun p F' H' h' e1 e2 hp => by
  obtain ⟨o, h1, h2, h3, h4⟩ := h'.frz (k := 0) rfl (hs.free hp)
  obtain ⟨xs, rfl, r⟩ := h2
  exact q _ _ _ h4 (e1.trans h3) e2 ⟨p, xs, rfl, upd_same, r.mono h3⟩
theorem rep_newD {F H0 : Hp} : ∀ {rs : List (List PyData)} {xs : List V}, SlA F xs (rs.map fun r => .p (NewD H0 r)) → RepA F xs (rs.map PyData.list)
  | [], _, h => by cases h; exact .nil
  | r :: rs, _, h => by cases h with | cons h1 t => exact .cons h1.1 (rep_newD t)
/-- sorted, of rows that lie so -/
theorem rcN_sortM {H0 : Hp} {rs : List (List PyData)} (h1 : PySem.W.AllAlike (rs.map PyData.list)) (h3 : ∀ d ∈ rs.map PyData.list, d.depth ≤ 60) (hp : (rs.map PyData.list).Pairwise fun a b => PySem.W.dataLe false id a b = true) :
    RCN B Δ C (FY.rSortedD K) [.p (LstM (rs.map fun r => .p (NewD H0 r)))] (.lst (rs.map fun r => .p (NewD H0 r))) := fun σ H F hs xs w Q q => by
  cases w with | cons w w' =>
    cases w'
    obtain ⟨a, xs, rfl, e, r⟩ := w
    have hP : ∀ {rs : List (List PyData)} {xs : List V}, SlA F xs (rs.map fun r => .p (NewD H0 r)) → Paired (fun x d => ∃ r, d = PyData.list r ∧ (NewD H0 r).φ F x) xs (rs.map PyData.list) := by
      intro rs
      induction rs with
      | nil => intro xs h; cases h; exact .nil
      | cons r rs ih => intro xs h; cases h with | cons h t => exact .cons ⟨r, rfl, h⟩ (ih t)
    have hB : ∀ {rs : List (List PyData)} {xs : List V}, Paired (fun x d => ∃ r, d = PyData.list r ∧ (NewD H0 r).φ F x) xs (rs.map PyData.list) → SlA F xs (rs.map fun r => .p (NewD H0 r)) := by
      intro rs
      induction rs with
      | nil => intro xs h; cases h; exact .nil
      | cons r rs ih => intro xs h; cases h with | cons h t => obtain ⟨r', e, h⟩ := h; cases e; exact .cons h (ih t)
    refine ⟨a, xs, rs.map PyData.list, _, rfl, SqL.of (hs.fh _ _ e), hP r, fun x d ⟨r, e, h⟩ => ?_, h1, ?_, h3, fun ys p hy hp' => ?_⟩
    · subst e; exact Rep.dp _ _ (Rep.mono hs.fh _ _ h.1)
    · refine .inr fun d hd => ?_
      obtain ⟨r, _, rfl⟩ := List.mem_map.mp hd
      exact ⟨fun z => (by cases z), fun xs z => (by cases z)⟩
    · rw [List.mergeSort_of_pairwise hp] at hy
      exact q.made hs ⟨_, rfl, hB hy⟩ p hp'
/-- the lists that a dict holds are let go -/
theorem St.recell (h : St B Δ C σ H F) {k : Nat} {l : Addr} {c c' : Cd} (e : C[k]? = some (l, c)) (hc : ∀ o, H l = some o → CellOk F o c → CellOk F o c') : St B Δ (C.set k (l, c')) σ H F := by
  obtain ⟨f0, o, ho, co⟩ := h.cell e
  have h2 := h.put e (hc o ho co)
  have eh : upd H l o = H := by
    funext a
    by_cases ha : a = l
    · subst ha; rw [upd_same, ho]
    · rw [upd_ne ha]
  rwa [eh] at h2
theorem kvA_mid {F : Hp} {key : List Key} {s1 s2 : Sd} (hs : ∀ v, SlV F v s1 → SlV F v s2) : ∀ {don rest : List (List Key × Sd)} {vs : List (List Key × V)}, KvA F vs (don ++ (key, s1) :: rest) → KvA F vs (don ++ (key, s2) :: rest)
  | [], _, _, .cons r t => .cons ⟨r.1, hs _ r.2⟩ t
  | _ :: _, _, _, .cons r t => .cons r (kvA_mid hs t)
theorem St.frzG {l : Addr} {H0 : Hp} (h0 : ∀ a, B.H a = none → H0 a = none) : ∀ {gs : List (List Key × List PyData × Addr)} {don : List (List Key × Sd)} {F : Hp}, (∀ g ∈ gs, B.H g.2.2 = none) → St B Δ ((l, .dt (don ++ gs.map fun g => (g.1, .v (.ref g.2.2)))) :: (gs.map fun g => (g.2.2, .lst (g.2.1.map Sd.d))) ++ C) σ H F →
    ∃ F', Ex F F' ∧ St B Δ ((l, .dt (don ++ gs.map fun g => (g.1, .p (NewD H0 g.2.1)))) :: C) σ H F'
  | [], don, F, _, h => ⟨F, Ex.refl F, h⟩
  | g :: gs, don, F, hB, h => by
    obtain ⟨F1, e1, h1, r⟩ := h.frzD (k := 1) (l := g.2.2) (ds := g.2.1) rfl (hB g List.mem_cons_self)
    have h2 := St.recell (k := 0) (l := l) (c' := .dt (don ++ (g.1, .p (NewD H0 g.2.1)) :: gs.map fun g => (g.1, .v (.ref g.2.2)))) h1 rfl (fun o _ ⟨vs, e, kv⟩ => ⟨vs, e, kvA_mid (s1 := .v (.ref g.2.2)) (rest := gs.map fun g => (g.1, .v (.ref g.2.2))) (fun v hv => by cases (show v = .ref g.2.2 from hv); exact ⟨r, _, rfl, h0 _ (hB g List.mem_cons_self)⟩) kv⟩)
    have h2 : St B Δ ((l, .dt (don ++ (g.1, .p (NewD H0 g.2.1)) :: gs.map fun g => (g.1, .v (.ref g.2.2)))) :: (gs.map fun g => (g.2.2, .lst (g.2.1.map Sd.d))) ++ C) σ H F1 := h2
    have h3 : St B Δ ((l, .dt ((don ++ [(g.1, .p (NewD H0 g.2.1))]) ++ gs.map fun g => (g.1, .v (.ref g.2.2)))) :: (gs.map fun g => (g.2.2, .lst (g.2.1.map Sd.d))) ++ C) σ H F1 := by
      rw [List.append_assoc]; exact h2
    obtain ⟨F2, e2, h4⟩ := St.frzG h0 (fun g hg => hB g (List.mem_cons_of_mem _ hg)) h3
    refine ⟨F2, e1.trans e2, ?_⟩
    rw [List.append_assoc] at h4
    exact h4
theorem wp_frzG {l : Addr} {H0 : Hp} (h0 : ∀ a, B.H a = none → H0 a = none) {gs : List (List Key × List PyData × Addr)} (hB : ∀ g ∈ gs, B.H g.2.2 = none) (h : WP B Δ ((l, .dt (gs.map fun g => (g.1, .p (NewD H0 g.2.1)))) :: C) tu D) :
    WP B Δ ((l, .dt (gs.map fun g => (g.1, .v (.ref g.2.2)))) :: (gs.map fun g => (g.2.2, .lst (g.2.1.map Sd.d))) ++ C) tu D := fun σ H ⟨F, hs⟩ => by
  obtain ⟨F', _, h'⟩ := St.frzG h0 (don := []) hB hs
  exact h σ H ⟨F', h'⟩
end
end FZ

set_option Elab.async false
set_option linter.all false
set_option maxRecDepth 100000
set_option maxHeartbeats 1000000
set_option autoImplicit false
/-! blocks: which ties go together, and rows of what goes together -/
namespace FN
open FW FM
def pairOf (a b : Nat) : Tie := (min a b, max a b)
/-- ties that go together at a point, and what follows -/
inductive BRel (near : List (List Nat)) : Tie → Tie → Prop
  | refl (t : Tie) : BRel near t t
  | step {p a b : Nat} : a ∈ near.getD p [] → b ∈ near.getD p [] → Reach near (fun y => decide (y = p)) a b → BRel near (pairOf p a) (pairOf p b)
  | symm {s t : Tie} : BRel near s t → BRel near t s
  | trans {s t u : Tie} : BRel near s t → BRel near t u → BRel near s u
noncomputable def bR (near : List (List Nat)) (s t : Tie) : Bool := by classical exact decide (BRel near s t)
theorem bR_iff {near : List (List Nat)} {s t : Tie} : bR near s t = true ↔ BRel near s t := by unfold bR; simp
/-- rows of what goes together, by their first ones -/
def at0 (ts : List Tie) (k : Nat) : Tie := ts.getD k (0, 0)
def isMin (R : Tie → Tie → Bool) (ts : List Tie) (k : Nat) : Bool := (List.range k).all fun j => !R (at0 ts j) (at0 ts k)
def rowsOf (R : Tie → Tie → Bool) (ts : List Tie) : List (List Tie) := ((List.range ts.length).filter (isMin R ts)).map fun k => ts.filter fun t => R (at0 ts k) t
theorem at0_get {ts : List Tie} {k : Nat} (h : k < ts.length) : ts[k]? = some (at0 ts k) := by
  unfold at0; rw [List.getD_eq_getElem?_getD, List.getElem?_eq_getElem h]; rfl
theorem at0_mem {ts : List Tie} {k : Nat} (h : k < ts.length) : at0 ts k ∈ ts := List.mem_of_getElem? (at0_get h)
theorem at0_snoc {ts : List Tie} {t : Tie} {k : Nat} (h : k < ts.length) : at0 (ts ++ [t]) k = at0 ts k := by
  unfold at0; rw [List.getD_eq_getElem?_getD, List.getD_eq_getElem?_getD, List.getElem?_append_left h]
theorem at0_last {ts : List Tie} {t : Tie} : at0 (ts ++ [t]) ts.length = t := by
  unfold at0; rw [List.getD_eq_getElem?_getD, List.getElem?_append_right (Nat.le_refl _)]; simp
theorem rowsOf_congr {R S : Tie → Tie → Bool} {ts : List Tie} (h : ∀ s ∈ ts, ∀ t ∈ ts, R s t = S s t) : rowsOf R ts = rowsOf S ts := by
  unfold rowsOf
  have e : (List.range ts.length).filter (isMin R ts) = (List.range ts.length).filter (isMin S ts) := by
    refine List.filter_congr fun k hk => ?_
    have hk := List.mem_range.mp hk
    unfold isMin
    rw [Bool.eq_iff_iff, List.all_eq_true, List.all_eq_true]
    constructor
    · intro g j hj; rw [← h _ (at0_mem (by have := List.mem_range.mp hj; omega)) _ (at0_mem hk)]; exact g j hj
    · intro g j hj; rw [h _ (at0_mem (by have := List.mem_range.mp hj; omega)) _ (at0_mem hk)]; exact g j hj
  rw [e]
  refine List.map_congr_left fun k hk => ?_
  have hk := List.mem_range.mp (List.mem_filter.mp hk).1
  exact List.filter_congr fun t ht => h _ (at0_mem hk) _ ht
/-! ### grouping by labels -/
def addG (gs : List (Tie × List Tie)) (l t : Tie) : List (Tie × List Tie) := if l ∈ gs.map (·.1) then gs.map (fun g => if g.1 = l then (g.1, g.2 ++ [t]) else g) else gs ++ [(l, [t])]
def grp (lab : Tie → Tie) (ts : List Tie) : List (Tie × List Tie) := ts.foldl (fun gs t => addG gs (lab t) t) []
def sameL (lab : Tie → Tie) (s t : Tie) : Bool := decide (lab s = lab t)
theorem grp_snoc (lab : Tie → Tie) (ts : List Tie) (t : Tie) : grp lab (ts ++ [t]) = addG (grp lab ts) (lab t) t := by unfold grp; rw [List.foldl_append]; rfl
theorem isMin_snoc {R : Tie → Tie → Bool} {ts : List Tie} {t : Tie} {k : Nat} (h : k < ts.length) : isMin R (ts ++ [t]) k = isMin R ts k := by
  unfold isMin
  rw [Bool.eq_iff_iff, List.all_eq_true, List.all_eq_true]
  constructor
  · intro g j hj; have := g j hj; rwa [at0_snoc h, at0_snoc (by have := List.mem_range.mp hj; omega)] at this
  · intro g j hj; rw [at0_snoc h, at0_snoc (by have := List.mem_range.mp hj; omega)]; exact g j hj
theorem mem_at0 {ts : List Tie} {t : Tie} (h : t ∈ ts) : ∃ k, k < ts.length ∧ at0 ts k = t := by
  obtain ⟨k, hk, e⟩ := List.getElem_of_mem h
  refine ⟨k, hk, ?_⟩
  have := at0_get hk
  rw [List.getElem?_eq_getElem hk] at this
  exact (Option.some.inj this).symm.trans e
/-- each has a first one -/
theorem min_of {R : Tie → Tie → Bool} (sym : ∀ a b, R a b = true → R b a = true) (tr : ∀ a b c, R a b = true → R b c = true → R a c = true) (rf : ∀ a, R a a = true) {ts : List Tie} : ∀ k, k < ts.length → ∃ j, j ≤ k ∧ isMin R ts j = true ∧ R (at0 ts j) (at0 ts k) = true := by
  intro k
  induction k using Nat.strongRecOn with
  | _ k ih =>
    intro hk
    by_cases c : isMin R ts k = true
    · exact ⟨k, Nat.le_refl _, c, rf _⟩
    · obtain ⟨j, hj, e⟩ : ∃ j, j < k ∧ R (at0 ts j) (at0 ts k) = true := by
        refine Classical.byContradiction fun z => c ?_
        unfold isMin
        rw [List.all_eq_true]
        intro j hj
        cases q : R (at0 ts j) (at0 ts k) with
        | false => rfl
        | true => exact absurd ⟨j, List.mem_range.mp hj, q⟩ z
      obtain ⟨i, h1, h2, h3⟩ := ih j hj (by omega)
      exact ⟨i, by omega, h2, tr _ _ _ h3 e⟩
theorem grp_eq (lab : Tie → Tie) (ts : List Tie) : grp lab ts = ((List.range ts.length).filter (isMin (sameL lab) ts)).map fun k => (lab (at0 ts k), ts.filter fun t => sameL lab (at0 ts k) t) := by
  induction ts using rev_ind with
  | h0 => rfl
  | h1 ts t ih =>
    rw [grp_snoc, ih]
    have hr : List.range (ts ++ [t]).length = List.range ts.length ++ [ts.length] := by rw [List.length_append]; exact List.range_succ
    have hf : (List.range ts.length).filter (isMin (sameL lab) (ts ++ [t])) = (List.range ts.length).filter (isMin (sameL lab) ts) := List.filter_congr fun k hk => isMin_snoc (List.mem_range.mp hk)
    have hm : ((List.range ts.length).filter (isMin (sameL lab) ts)).map (fun k => (lab (at0 (ts ++ [t]) k), (ts ++ [t]).filter fun u => sameL lab (at0 (ts ++ [t]) k) u)) =
        ((List.range ts.length).filter (isMin (sameL lab) ts)).map (fun k => (lab (at0 ts k), (ts.filter fun u => sameL lab (at0 ts k) u) ++ if lab (at0 ts k) = lab t then [t] else [])) := by
      refine List.map_congr_left fun k hk => ?_
      have hk := List.mem_range.mp (List.mem_filter.mp hk).1
      rw [at0_snoc hk, List.filter_append]
      congr 2
      unfold sameL
      by_cases c : lab (at0 ts k) = lab t <;> simp [c]
    have hmin : isMin (sameL lab) (ts ++ [t]) ts.length = true ↔ lab t ∉ ts.map lab := by
      unfold isMin
      rw [List.all_eq_true, at0_last]
      constructor
      · intro g z
        obtain ⟨u, hu, e⟩ := List.mem_map.mp z
        obtain ⟨k, hk, rfl⟩ := mem_at0 hu
        have := g k (List.mem_range.mpr hk)
        rw [at0_snoc hk] at this
        unfold sameL at this
        simp [e] at this
      · intro g k hk
        have hk := List.mem_range.mp hk
        rw [at0_snoc hk]
        unfold sameL
        have : ¬ lab (at0 ts k) = lab t := fun z => g (List.mem_map.mpr ⟨_, at0_mem hk, z⟩)
        simp [this]
    have hkeys : lab t ∈ (((List.range ts.length).filter (isMin (sameL lab) ts)).map fun k => (lab (at0 ts k), ts.filter fun t => sameL lab (at0 ts k) t)).map (·.1) ↔ lab t ∈ ts.map lab := by
      rw [List.map_map, List.mem_map, List.mem_map]
      constructor
      · rintro ⟨k, hk, e⟩
        exact ⟨at0 ts k, at0_mem (List.mem_range.mp (List.mem_filter.mp hk).1), e⟩
      · rintro ⟨u, hu, e⟩
        obtain ⟨k, hk, rfl⟩ := mem_at0 hu
        obtain ⟨j, h1, h2, h3⟩ := min_of (R := sameL lab) (by simp [sameL]; intro a b c d h; exact h.symm) (by simp [sameL]; intro a b c d e f h1 h2; exact h1.trans h2) (by simp [sameL]) k hk
        refine ⟨j, List.mem_filter.mpr ⟨List.mem_range.mpr (by omega), h2⟩, ?_⟩
        have h3 : lab (at0 ts j) = lab (at0 ts k) := by simpa [sameL] using h3
        exact h3.trans e
    rw [hr, List.filter_append, List.map_append, hf, hm]
    unfold addG
    by_cases c : lab t ∈ ts.map lab
    · rw [if_pos (hkeys.mpr c)]
      have c' : isMin (sameL lab) (ts ++ [t]) ts.length = false := by
        cases z : isMin (sameL lab) (ts ++ [t]) ts.length with
        | false => rfl
        | true => exact absurd c (hmin.mp z)
      rw [List.map_map]
      have : List.filter (isMin (sameL lab) (ts ++ [t])) [ts.length] = [] := by simp [List.filter_cons, c']
      rw [this, List.map_nil, List.append_nil]
      refine List.map_congr_left fun k hk => ?_
      show (if lab (at0 ts k) = lab t then (lab (at0 ts k), (ts.filter fun t => sameL lab (at0 ts k) t) ++ [t]) else (lab (at0 ts k), ts.filter fun t => sameL lab (at0 ts k) t)) = _
      by_cases d : lab (at0 ts k) = lab t
      · rw [if_pos d, if_pos d]
      · rw [if_neg d, if_neg d, List.append_nil]
    · rw [if_neg fun z => c (hkeys.mp z)]
      have c' : isMin (sameL lab) (ts ++ [t]) ts.length = true := hmin.mpr c
      have : List.filter (isMin (sameL lab) (ts ++ [t])) [ts.length] = [ts.length] := by simp [List.filter_cons, c']
      rw [this]
      congr 1
      · refine List.map_congr_left fun k hk => ?_
        have hk := List.mem_range.mp (List.mem_filter.mp hk).1
        have d : ¬ lab (at0 ts k) = lab t := fun z => c (List.mem_map.mpr ⟨_, at0_mem hk, z⟩)
        rw [if_neg d, List.append_nil]
      · simp only [List.map_cons, List.map_nil, at0_last]
        congr 2
        rw [List.filter_append]
        have : ts.filter (fun u => sameL lab t u) = [] := by
          rw [List.filter_eq_nil_iff]
          intro u hu z
          have z : lab t = lab u := by simpa [sameL] using z
          exact c (List.mem_map.mpr ⟨u, hu, z.symm⟩)
        rw [this]
        simp [sameL]
theorem grp_rows (lab : Tie → Tie) (ts : List Tie) : (grp lab ts).map (·.2) = rowsOf (sameL lab) ts := by
  rw [grp_eq, List.map_map]; rfl
theorem addG_nodup {gs : List (Tie × List Tie)} {l t : Tie} (h : (gs.map (·.1)).Nodup) : ((addG gs l t).map (·.1)).Nodup := by
  unfold addG
  split
  · rw [List.map_map]
    have : gs.map ((·.1) ∘ fun g => if g.1 = l then (g.1, g.2 ++ [t]) else g) = gs.map (·.1) := List.map_congr_left fun g _ => by
      show (if g.1 = l then (g.1, g.2 ++ [t]) else g).1 = g.1
      split <;> rfl
    rw [this]; exact h
  · rename_i c
    rw [List.map_append, List.nodup_append]
    refine ⟨h, by simp, fun a ha b hb e => ?_⟩
    simp at hb; subst hb; subst e; exact c ha
theorem grp_nodup (lab : Tie → Tie) (ts : List Tie) : ((grp lab ts).map (·.1)).Nodup := by
  induction ts using rev_ind with
  | h0 => exact .nil
  | h1 ts t ih => rw [grp_snoc]; exact addG_nodup ih
theorem addG_len (gs : List (Tie × List Tie)) (l t : Tie) : (addG gs l t).length ≤ gs.length + 1 := by
  unfold addG; split <;> simp
theorem grp_len (lab : Tie → Tie) (ts : List Tie) : (grp lab ts).length ≤ ts.length := by
  induction ts using rev_ind with
  | h0 => exact Nat.le_refl _
  | h1 ts t ih => rw [grp_snoc, List.length_append]; have := addG_len (grp lab ts) (lab t) t; simp; omega
/-! ### labels -/
def joinLab (lab : Tie → Tie) (a b : Tie) : Tie → Tie := fun t => if lab t = lab b then lab a else lab t
theorem joinLab_keep {lab : Tie → Tie} {a b s t : Tie} (h : lab s = lab t) : joinLab lab a b s = joinLab lab a b t := by unfold joinLab; rw [h]
theorem joinLab_ab {lab : Tie → Tie} {a b : Tie} : joinLab lab a b a = joinLab lab a b b := by
  unfold joinLab; rw [if_pos rfl]; split <;> rfl
/-- what the labels say is true -/
def Snd (near : List (List Nat)) (lab : Tie → Tie) : Prop := ∀ s t, lab s = lab t → BRel near s t
theorem joinLab_snd {near : List (List Nat)} {lab : Tie → Tie} {a b : Tie} (h : Snd near lab) (hab : BRel near a b) : Snd near (joinLab lab a b) := by
  intro s t e
  unfold joinLab at e
  by_cases c : lab s = lab b
  · by_cases d : lab t = lab b
    · exact h s t (c.trans d.symm)
    · rw [if_pos c, if_neg d] at e
      exact ((h s b c).trans hab.symm).trans (h a t e)
  · by_cases d : lab t = lab b
    · rw [if_neg c, if_pos d] at e
      exact ((h s a e).trans hab).trans (h b t d.symm)
    · rw [if_neg c, if_neg d] at e
      exact h s t e
/-- the ties at p: those are together that should be -/
def Cpl (near : List (List Nat)) (lab : Tie → Tie) (p : Nat) : Prop := ∀ a b, a ∈ near.getD p [] → b ∈ near.getD p [] → Reach near (fun y => decide (y = p)) a b → lab (pairOf p a) = lab (pairOf p b)
theorem lab_rel {near : List (List Nat)} {lab : Tie → Tie} (h1 : Snd near lab) (h2 : ∀ p, Cpl near lab p) {s t : Tie} : lab s = lab t ↔ BRel near s t := by
  refine ⟨h1 s t, fun h => ?_⟩
  induction h with
  | refl t => rfl
  | step ha hb r => exact h2 _ _ _ ha hb r
  | symm _ ih => exact ih.symm
  | trans _ _ i1 i2 => exact i1.trans i2
end FN

set_option Elab.async false
set_option linter.all false
set_option maxRecDepth 100000
set_option maxHeartbeats 1000000
set_option autoImplicit false
/-! blocks() at work -/
namespace FB
open PySem L2 FD FW FX FQ FA FM FN FZ
open Evl (Ex)
def kT (t : Tie) : List Key := [.inl (t.1 : Int), .inl (t.2 : Int)]
theorem kT_inj {s t : Tie} (h : kT s = kT t) : s = t := by
  unfold kT at h
  simp only [List.cons.injEq, Sum.inl.injEq, and_true] at h
  obtain ⟨a, b⟩ := s; obtain ⟨c, d⟩ := t
  simp only [Prod.mk.injEq] at *
  omega
def dictT (ts : List Tie) (f : Tie → Sd) : List (List Key × Sd) := ts.map fun t => (kT t, f t)
theorem lookT {ts : List Tie} {f : Tie → Sd} {t : Tie} (h : t ∈ ts) : lookA (dictT ts f) (kT t) = some (f t) := by
  induction ts with
  | nil => cases h
  | cons u ts ih =>
    show lookA ((kT u, f u) :: dictT ts f) (kT t) = _
    rw [lookA_cons]
    by_cases c : u = t
    · subst c; rw [if_pos rfl]
    · rw [if_neg fun z => c (kT_inj z)]
      rcases List.mem_cons.mp h with e | h
      · exact absurd e.symm c
      · exact ih h
theorem lookT_none {ts : List Tie} {f : Tie → Sd} {t : Tie} (h : t ∉ ts) : lookA (dictT ts f) (kT t) = none := by
  induction ts with
  | nil => rfl
  | cons u ts ih =>
    show lookA ((kT u, f u) :: dictT ts f) (kT t) = _
    rw [lookA_cons, if_neg fun z => h (by rw [kT_inj z]; exact List.mem_cons_self)]
    exact ih fun z => h (List.mem_cons_of_mem _ z)
theorem putT {ts : List Tie} {f : Tie → Sd} {t : Tie} {s : Sd} (h : t ∈ ts) : putA (dictT ts f) (kT t) s = dictT ts fun u => if u = t then s else f u := by
  unfold putA
  rw [if_pos]
  · unfold dictT
    rw [List.map_map]
    refine List.map_congr_left fun u _ => ?_
    show (if kT u = kT t then (kT u, s) else (kT u, f u)) = (kT u, if u = t then s else f u)
    by_cases c : u = t
    · subst c; rw [if_pos rfl, if_pos rfl]
    · rw [if_neg fun z => c (kT_inj z), if_neg c]
  · refine List.any_eq_true.mpr ⟨(kT t, f t), List.mem_map.mpr ⟨t, h, rfl⟩, by simp⟩
theorem putT_new {ts : List Tie} {f : Tie → Sd} {t : Tie} (h : t ∉ ts) : putA (dictT ts f) (kT t) (f t) = dictT (ts ++ [t]) f := by
  rw [putA_new _ (lookT_none h)]; unfold dictT; rw [List.map_append]; rfl
def labD (ts : List Tie) (lab : Tie → Tie) : List (List Key × Sd) := dictT ts fun t => .d (dTie (lab t))
def R_pair : Hp → Hp → List Sd → Sd → Prop := fun _ _ ss s => ∃ a b, ss = [sN a, sN b] ∧ s = .d (dTie (pairOf a b))
def sp_pair_of (K : PySem.W.Frag) (C : Addr) : Sp := SpD R_pair
def R_joined : Hp → Hp → Cd → List Sd → Cd → Prop := fun _ _ c ss c' => ∃ ts lab a b, c = .dt (labD ts lab) ∧ ss = [.d (dTie a), .d (dTie b)] ∧ a ∈ ts ∧ b ∈ ts ∧ ts.Nodup ∧ ts.length ≤ 1000 ∧ c' = .dt (labD ts (joinLab lab a b))
def sp_joined (K : PySem.W.Frag) (C : Addr) : Sp := SpC R_joined
noncomputable def blk (n : Nat) (near : List (List Nat)) : List (List Tie) := rowsOf (bR near) (tiesOf n near)
def R_blocks (C : Addr) : Hp → Hp → List Sd → Cd → Prop := fun F H ss c => ∃ n ts H0, ss = [.p (WebM C n (nearOf n ts))] ∧ Good n ts ∧ n ≤ 16 ∧ ts.length ≤ 40 ∧ (∀ a, H a = none → H0 a = none) ∧ c = .lst ((blk n (nearOf n ts)).map fun r => .p (NewD H0 (r.map dTie)))
def sp_blocks (K : PySem.W.Frag) (C : Addr) : Sp := SpN (R_blocks C)
def N_pair_of : List Str := ["one", "other"]
def t_pair_of (K : PySem.W.Frag) (C : Addr) : TS :=
  (tRet (tTup (tCons (tCB xMin2 (tCons (tVar 0) (tCons (tVar 1) tNil))) (tCons (tCB xMax2 (tCons (tVar 0) (tCons (tVar 1) tNil))) tNil))))
def N_joined : List Str := ["labels", "one", "other", "kept", "gone", "tie"]
def t_joined (K : PySem.W.Frag) (C : Addr) : TS :=
  (tSeq (tAsg (tDGet (tVar 0) (tVar 1)) (gName 3))
  (tSeq (tAsg (tDGet (tVar 0) (tVar 2)) (gName 4))
  (tFor (iList K (tCB FZ.xListT (tCons (tVar 0) tNil))) (gName 5) (tIfS (tTest (tOp (rEqD K) (tDGet (tVar 0) (tVar 5)) (tVar 4))) (sDPut (tVar 0) (tVar 5) (tVar 3)) tNext))))
def N_blocks : List Str := ["web", "labels", "tie", "point", "left", "first", "reached", "other", "found"]
def t_blocks (K : PySem.W.Frag) (C : Addr) : TS :=
  (tSeq (tAsg tDNewT (gName 1))
  (tSeq (tFor (iList K (tMeth C "ties" (sp_Web_ties K C) [] E0 (tVar 0) tNil)) (gName 2) (sDPut (tVar 1) (tVar 2) (tVar 2)))
  (tSeq (tFor (iRng1 (tCons (tFld K (tVar 0) "many") tNil)) (gName 3) (tSeq (tAsg (tMeth C "beside" (sp_Web_beside K C) [] E0 (tVar 0) (tCons (tVar 3) tNil)) (gName 4))
  (tWhile (tTest (tOp (rNeD K) (tVar 4) (tLst tNil))) (tSeq (tAsg (tOp (rIx K) (tVar 4) (tC (.int 0))) (gName 5))
  (tSeq (tAsg (tCall (sp_come_to K C) [] E0 (tCons (tFld K (tVar 0) "near") (tCons (tVar 5) (tCons (tDisp [((tVar 3), (tC (.bl true)))]) tNil)))) (gName 6))
  (tSeq (tFor (iList K (tVar 4)) (gName 7) (tIfS (tTest (tOp (rIn K false) (tVar 7) (tVar 6))) (tDrop (tCall (sp_joined K C) [] E0 (tCons (tVar 1) (tCons (tCall (sp_pair_of K C) [] E0 (tCons (tVar 3) (tCons (tVar 5) tNil))) (tCons (tCall (sp_pair_of K C) [] E0 (tCons (tVar 3) (tCons (tVar 7) tNil))) tNil))))) tNext))
  (tAsg (tLc (iList K (tVar 4)) (gName 7) (tTest (tOp (rIn K true) (tVar 7) (tVar 6))) (tVar 7) [7]) (gName 4))))))))
  (tSeq (tAsg tDNewT (gName 8))
  (tSeq (tFor (iList K (tCB FY.rSortedT2 (tCons (tVar 1) tNil))) (gName 2) (tDrop (tBM K "list" rAppend (tBM K "dict" FY.rSetdT (tVar 8) (tCons (tDGet (tVar 1) (tVar 2)) (tCons (tLst tNil) tNil))) (tCons (tVar 2) tNil))))
  (tRet (tCB (FY.rSortedD K) (tCons (tCB FY.rListV (tCons (tBM0 K "dict" FY.rValsT (tVar 8)) tNil)) tNil))))))))
section
variable {K : PySem.W.Frag} {C : Addr} {vs : List V} {H : Hp} {Q : VK} {E : XK}
theorem pure_pair_of (h : sp_pair_of K C vs H Q E) : t_pair_of K C { nx := fun _ H' => Q .non H', rt := Q } (L2.start N_pair_of vs) H := by
  refine enterD h fun F ss s hf ha hR hq => ?_
  obtain ⟨a, b, rfl, rfl⟩ := hR
  refine ⟨_, ha, ?_⟩
  show WP ⟨F, H, []⟩ [sN a, sN b] [] (t_pair_of K C) _
  refine s_ret (s := .d (dTie (pairOf a b))) (ev_eq (ev_tup (ds := [.int (min (a : Int) b), .int (max (a : Int) b)]) (ea_cons (ev_cb (ea_cons (ev_var rfl rfl) (ea_cons (ev_var rfl rfl) ea_nil)) rc_min2) (ea_cons (ev_cb (ea_cons (ev_var rfl rfl) (ea_cons (ev_var rfl rfl) ea_nil)) rc_max2) ea_nil))) ?_) hq
  unfold pairOf dTie dN
  have e1 : min (a : Int) b = ((min a b : Nat) : Int) := by omega
  have e2 : max (a : Int) b = ((max a b : Nat) : Int) := by omega
  rw [e1, e2]
theorem pure_joined (h : sp_joined K C vs H Q E) : t_joined K C { nx := fun _ H' => Q .non H', rt := Q } (L2.start N_joined vs) H := by
  refine enterC h fun F Hm x ss c c' hR hq => ?_
  obtain ⟨ts, lab, a, b, rfl, rfl, ha, hb, hn, hl, rfl⟩ := hR
  show WP ⟨F, Hm, []⟩ [.v (.ref x), .d (dTie a), .d (dTie b), .no, .no, .no] [(x, .dt (labD ts lab))] (t_joined K C) _
  refine q_asg (ev_dgetT (k := 0) (x := kT a) rfl (ev_var rfl rfl) (ev_var rfl rfl) (lookT ha)) ?_
  refine q_asg (ev_dgetT (k := 0) (x := kT b) rfl (ev_var rfl rfl) (ev_var rfl rfl) (lookT hb)) ?_
  refine s_for1 (α := Unit) dTie (Src.list (ev_of' (ts.map dTie) (evN_listKT (k := 0) rfl (ev_var rfl rfl)) (by unfold labD dictT; rw [List.map_map, List.map_map, List.map_map]; rfl))) (fun _ _ => True) (fun _ _ => [.v (.ref x), .d (dTie a), .d (dTie b), .d (dTie (lab a)), .d (dTie (lab b)), .any])
    (fun i _ => [(x, .dt (labD ts fun t => if t ∈ ts.take i then joinLab lab a b t else lab t))]) (fun G => nx_inv () trivial (hC := by simp [labD])) ?_ ?_
  · intro G i _ t ht _
    have hm : t ∈ ts := List.mem_of_getElem? ht
    have hni : t ∉ ts.take i := by
      intro z
      obtain ⟨j, hj, e⟩ := List.getElem_of_mem z
      have hj' : j < i := by rw [List.length_take] at hj; omega
      rw [List.getElem_take] at e
      have hi := (List.getElem?_eq_some_iff.mp ht)
      obtain ⟨hi, e2⟩ := hi
      have := (List.getElem_inj (h₀ := by omega) (h₁ := hi) hn).mp (e.trans e2.symm)
      omega
    refine s_when (b := decide (lab t = lab b)) (et_B (ev_op (ev_dgetT (k := 0) (x := kT t) (s := .d (dTie (lab t))) rfl (ev_var rfl rfl) (ev_var rfl rfl) ?_) (ev_var rfl rfl) (rv_eqG faith_tie (sh_tie _) (sh_tie _)))) (fun c => ?_) (fun c => ?_)
    · unfold labD; rw [lookT hm]; dsimp only; rw [if_neg hni]
    · have c : lab t = lab b := of_decide_eq_true c
      refine s_dputT (k := 0) (x := kT t) rfl (ev_var rfl rfl) (ev_var rfl rfl) (ev_var rfl rfl) (nx_inv () trivial (hC := ?_)) (by unfold labD dictT; rw [List.length_map]; omega)
      unfold labD
      rw [putT hm]
      show [(x, _)] = [(x, _)]
      congr 4
      funext u
      rw [take_succ ht]
      by_cases e : u = t
      · subst e
        rw [if_pos rfl]
        simp [joinLab, c]
      · rw [if_neg e]
        simp [e]
    · have c : ¬ lab t = lab b := of_decide_eq_false c
      refine nx_inv () trivial (hC := ?_)
      congr 4
      funext u
      rw [take_succ ht]
      by_cases e : u = t
      · subst e
        simp [joinLab, c]
      · simp [e]
  · intro _ _
    rw [List.take_length]
    have e : labD ts (fun t => if t ∈ ts then joinLab lab a b t else lab t) = labD ts (joinLab lab a b) := by
      unfold labD dictT
      refine List.map_congr_left fun t ht => ?_
      dsimp only
      rw [if_pos ht]
    rw [e]
    exact hq _
/-! ### blocks -/
theorem mem_near {n : Nat} {ts : List Tie} (g : Good n ts) {p a : Nat} (h : a ∈ (nearOf n ts).getD p []) : p < n ∧ a < n ∧ a ≠ p ∧ pairOf p a ∈ tiesOf n (nearOf n ts) := by
  have m := nearOf_mem n ts (fun s hs => ⟨(g.rng s hs).1, (g.rng s hs).2.1⟩)
  have h1 := (m p a).mp h
  have hr : p < n ∧ a < n ∧ a ≠ p := by
    rcases h1 with h1 | h1
    · have := g.rng _ h1; exact ⟨this.1, this.2.1, fun z => this.2.2 z.symm⟩
    · have := g.rng _ h1; exact ⟨this.2.1, this.1, this.2.2⟩
  refine ⟨hr.1, hr.2.1, hr.2.2, ?_⟩
  unfold pairOf
  rw [mem_tiesOf]
  by_cases c : p < a
  · have e1 : min p a = p := by omega
    have e2 : max p a = a := by omega
    rw [e1, e2]; exact ⟨hr.1, c, h⟩
  · have c' : a < p := by have := hr.2.2; omega
    have e1 : min p a = a := by omega
    have e2 : max p a = p := by omega
    rw [e1, e2]; exact ⟨hr.2.1, c', (m a p).mpr h1.symm⟩
theorem near_lt {n : Nat} {ts : List Tie} (g : Good n ts) (hn : n ≤ 16) : ∀ r ∈ nearOf n ts, ∀ x ∈ r, x < (nearOf n ts).length := fun r hr => ((nearOf_ok g hn).2 r hr).2
theorem reach_trans {near : List (List Nat)} {bar : Nat → Bool} {s x y : Nat} (h1 : Reach near bar s x) (h2 : Reach near bar x y) : Reach near bar s y := by
  induction h2 with
  | base => exact h1
  | step _ h3 h4 ih => exact .step ih h3 h4
theorem reach_symm {near : List (List Nat)} (sym : ∀ x y, y ∈ near.getD x [] → x ∈ near.getD y []) {bar : Nat → Bool} {s x : Nat} (hs : bar s = false) (h : Reach near bar s x) : bar x = false ∧ Reach near bar x s := by
  induction h with
  | base => exact ⟨hs, .base⟩
  | @step x y _ h3 h4 ih => exact ⟨h4, reach_trans (.step .base (sym _ _ h3) ih.1) ih.2⟩
theorem near_sym {n : Nat} {ts : List Tie} (g : Good n ts) (x y : Nat) (h : y ∈ (nearOf n ts).getD x []) : x ∈ (nearOf n ts).getD y [] := by
  have m := nearOf_mem n ts (fun s hs => ⟨(g.rng s hs).1, (g.rng s hs).2.1⟩)
  exact (m y x).mpr ((m x y).mp h).symm
theorem ties_nodup {n : Nat} {ts : List Tie} (g : Good n ts) : (tiesOf n (nearOf n ts)).Nodup := by
  have h := (tiesOf_pw (nearOf n ts) (nearOf_row n ts g) n)
  have h2 : ((tiesOf n (nearOf n ts)).map intT).Nodup := h.imp fun h => h.2
  exact List.Pairwise.of_map intT (fun a b hab e => hab (by rw [e])) h2
theorem ties_sort {n : Nat} {ts : List Tie} (g : Good n ts) : sortP ((tiesOf n (nearOf n ts)).map intT) = (tiesOf n (nearOf n ts)).map intT :=
  (sortP_uniq (List.Perm.refl _) ((tiesOf_pw (nearOf n ts) (nearOf_row n ts g) n).imp fun h => h.1)).symm
/-- rows lie by their first ones -/
theorem rows_head {R : Tie → Tie → Bool} (rf : ∀ a, R a a = true) (ts : List Tie) {k : Nat} (hk : k < ts.length) (hm : isMin R ts k = true) (sym : ∀ a b, R a b = true → R b a = true) : ∃ r, (ts.filter fun t => R (at0 ts k) t) = at0 ts k :: r := by
  have e : ts = ts.take k ++ at0 ts k :: ts.drop (k + 1) := by
    have h1 : ts = ts.take k ++ ts.drop k := (List.take_append_drop k ts).symm
    have h2 : ts.drop k = at0 ts k :: ts.drop (k + 1) := by
      rw [List.drop_eq_getElem_cons hk]
      have := at0_get hk
      rw [List.getElem?_eq_getElem hk] at this
      rw [Option.some.inj this]
    rw [← h2]; exact h1
  have h0 : (ts.take k).filter (fun t => R (at0 ts k) t) = [] := by
    rw [List.filter_eq_nil_iff]
    intro u hu z
    obtain ⟨j, hj, rfl⟩ := List.getElem_of_mem hu
    have hj' : j < k := by rw [List.length_take] at hj; omega
    rw [List.getElem_take] at z
    have ej : ts[j] = at0 ts j := by
      have := at0_get (ts := ts) (k := j) (by omega)
      rw [List.getElem?_eq_getElem (by omega)] at this
      exact Option.some.inj this
    rw [ej] at z
    unfold isMin at hm
    rw [List.all_eq_true] at hm
    have := hm j (List.mem_range.mpr hj')
    rw [sym _ _ z] at this
    cases this
  generalize hx : at0 ts k = x at *
  refine ⟨(ts.drop (k + 1)).filter fun t => R x t, ?_⟩
  have : ts.filter (fun t => R x t) = (ts.take k ++ x :: ts.drop (k + 1)).filter (fun t => R x t) := by rw [← e]
  rw [this, List.filter_append, h0, List.nil_append, List.filter_cons, if_pos (rf x)]
theorem alikeT : ∀ (a b : List Tie), PySem.W.alikeAll (a.map dTie) (b.map dTie) = true
  | [], _ => by simp [PySem.W.alikeAll]
  | _ :: _, [] => by simp [PySem.W.alikeAll]
  | x :: a, y :: b => by
    show PySem.W.alikeAll (dTie x :: a.map dTie) (dTie y :: b.map dTie) = true
    rw [PySem.W.alikeAll, alikeT a b]
    simp [PySem.W.alike, PySem.W.alikeAll]
theorem depthT : ∀ (a : List Tie), PyData.depthAll (a.map dTie) ≤ 1
  | [] => by simp [PyData.depthAll]
  | x :: a => by
    show PyData.depthAll (dTie x :: a.map dTie) ≤ 1
    rw [PyData.depthAll]
    have := depthT a
    have e : (dTie x).depth = 1 := by simp [PyData.depth, PyData.depthAll]
    omega
theorem rows_alike (rs : List (List Tie)) : PySem.W.AllAlike ((rs.map fun r => r.map dTie).map PyData.list) := by
  intro d hd d' hd'
  obtain ⟨r, hr, rfl⟩ := List.mem_map.mp hd
  obtain ⟨r', hr', rfl⟩ := List.mem_map.mp hd'
  obtain ⟨r, _, rfl⟩ := List.mem_map.mp hr
  obtain ⟨r', _, rfl⟩ := List.mem_map.mp hr'
  rw [PySem.W.alike]
  exact alikeT r r'
theorem rows_depth (rs : List (List Tie)) : ∀ d ∈ (rs.map fun r => r.map dTie).map PyData.list, d.depth ≤ 60 := by
  intro d hd
  obtain ⟨r, hr, rfl⟩ := List.mem_map.mp hd
  obtain ⟨r, _, rfl⟩ := List.mem_map.mp hr
  rw [PyData.depth]
  have := depthT r
  omega
theorem row_le {x y : Tie} {r q : List Tie} (h : x ≠ y) (h2 : leP (intT x) (intT y) = true) : PySem.W.dataLe false id (PyData.list ((x :: r).map dTie)) (PyData.list ((y :: q).map dTie)) = true := by
  show (!PySem.W.dataLt (PyData.list ((y :: q).map dTie)) (PyData.list ((x :: r).map dTie))) = true
  have e1 : PySem.W.dataLt (PyData.list ((y :: q).map dTie)) (PyData.list ((x :: r).map dTie)) = false := by
    rw [PySem.W.dataLt_list, List.map_cons, List.map_cons, PySem.W.dataLt_cons (by simp [PySem.W.alike, PySem.W.alikeAll])]
    rw [faith_tie y x, if_neg (by simpa using fun z => h z.symm)]
    have : PySem.W.dataLt (dTie y) (dTie x) = decide ((y.1 : Int) < x.1 ∨ ((y.1 : Int) = x.1 ∧ (y.2 : Int) < x.2)) := PySem.W.dataLt_ii _ _ _ _
    rw [this]
    unfold leP intT at h2
    simp only [decide_eq_true_eq] at h2
    simp only [decide_eq_false_iff_not]
    omega
  rw [e1]; rfl
theorem blk_sorted {n : Nat} {ts : List Tie} (g : Good n ts) (R : Tie → Tie → Bool) (rf : ∀ a, R a a = true) (sym : ∀ a b, R a b = true → R b a = true) : (((rowsOf R (tiesOf n (nearOf n ts))).map fun r => r.map dTie).map PyData.list).Pairwise fun a b => PySem.W.dataLe false id a b = true := by
  have hs := (tiesOf_pw (nearOf n ts) (nearOf_row n ts g) n)
  generalize tiesOf n (nearOf n ts) = T at hs ⊢
  unfold FN.rowsOf
  rw [List.map_map, List.map_map, List.pairwise_map]
  have hp : ((List.range T.length).filter (isMin R T)).Pairwise (· < ·) := List.Pairwise.filter _ List.pairwise_lt_range
  refine List.Pairwise.imp_of_mem (fun {a b} ha hb hab => ?_) hp
  obtain ⟨ha1, ha2⟩ := List.mem_filter.mp ha
  obtain ⟨hb1, hb2⟩ := List.mem_filter.mp hb
  have ha1 := List.mem_range.mp ha1
  have hb1 := List.mem_range.mp hb1
  obtain ⟨r, er⟩ := rows_head rf T ha1 ha2 sym
  obtain ⟨q, eq⟩ := rows_head rf T hb1 hb2 sym
  have hlt : leP (intT (at0 T a)) (intT (at0 T b)) = true ∧ intT (at0 T a) ≠ intT (at0 T b) := by
    have := List.pairwise_iff_getElem.mp hs a b (by simpa using ha1) (by simpa using hb1) hab
    rw [List.getElem_map, List.getElem_map] at this
    have e1 : T[a] = at0 T a := by have := at0_get ha1; rw [List.getElem?_eq_getElem ha1] at this; exact Option.some.inj this
    have e2 : T[b] = at0 T b := by have := at0_get hb1; rw [List.getElem?_eq_getElem hb1] at this; exact Option.some.inj this
    rw [e1, e2] at this
    exact this
  show PySem.W.dataLe false id (PyData.list ((T.filter fun t => R (at0 T a) t).map dTie)) (PyData.list ((T.filter fun t => R (at0 T b) t).map dTie)) = true
  rw [er, eq]
  exact row_le (fun z => hlt.2 (by rw [z])) hlt.1
theorem valV_one {x p : Nat} {v : V} : (valV [((Sum.inl (p : Int) : Key), v)] (.inl (x : Int))).isSome = decide (x = p) := by
  by_cases c : x = p
  · subst c; rw [valV_pos rfl]; simp
  · rw [valV_neg (fun z => c (by have := Sum.inl.inj z; omega))]
    simp [c, valV]
theorem come_mem {n : Nat} {ts : List Tie} (g : Good n ts) (hn : n ≤ 16) {bar : Nat → Bool} {s : Nat} (hs : s < n) (x : Nat) : x ∈ comeTo (nearOf n ts) bar s ↔ Reach (nearOf n ts) bar s x := (comeTo_ok (near_lt g hn) (by rw [nearOf_len]; exact hs)).2.2 x
theorem set_map {α β : Type} (f : α → β) {gs : List α} {m : Nat} {x : α} : (gs.map f).set m (f x) = (gs.set m x).map f := by rw [List.map_set]
theorem if_set {gs : List (Tie × List Tie)} {l t : Tie} (hn : (gs.map (·.1)).Nodup) {m : Nat} {r : List Tie} (hm : gs[m]? = some (l, r)) : gs.map (fun g => if g.1 = l then (g.1, g.2 ++ [t]) else g) = gs.set m (l, r ++ [t]) := by
  apply List.ext_getElem?
  intro i
  rw [List.getElem?_map, List.getElem?_set]
  by_cases c : m = i
  · subst c
    have hl := (List.getElem?_eq_some_iff.mp hm).1
    rw [if_pos rfl, if_pos hl, hm]
    simp
  · rw [if_neg c]
    cases q : gs[i]? with
    | none => rfl
    | some g =>
      have : g.1 ≠ l := by
        intro z
        have h1 : (gs.map (·.1))[i]? = some l := by rw [List.getElem?_map, q]; simp [z]
        have h2 : (gs.map (·.1))[m]? = some l := by rw [List.getElem?_map, hm]; rfl
        have hml := (List.getElem?_eq_some_iff.mp h2).1
        exact c ((List.getElem?_inj hml hn).mp (by rw [h1, h2]))
      simp [this]
theorem set_same {α : Type} {l : List α} {m : Nat} {x : α} (h : l[m]? = some x) : l.set m x = l := by
  apply List.ext_getElem?
  intro i
  rw [List.getElem?_set]
  by_cases c : m = i
  · subst c; rw [if_pos rfl, if_pos (List.getElem?_eq_some_iff.mp h).1, h]
  · rw [if_neg c]
abbrev Gp := Tie × List Tie × Addr
def gpK (gs : List Gp) : List (List Key × Sd) := gs.map fun g => (kT g.1, .v (.ref g.2.2))
def gpC (gs : List Gp) : Cs := gs.map fun g => (g.2.2, .lst (g.2.1.map fun t => Sd.d (dTie t)))
theorem gp_look {gs : List Gp} {l : Tie} {sd : Sd} (h : lookA (gpK gs) (kT l) = some sd) : ∃ (m : Nat) (g : Gp), gs[m]? = some g ∧ g.1 = l ∧ sd = .v (.ref g.2.2) := by
  induction gs with
  | nil => cases h
  | cons g gs ih =>
    have h : lookA ((kT g.1, Sd.v (.ref g.2.2)) :: gpK gs) (kT l) = some sd := h
    rw [lookA_cons] at h
    by_cases c : kT g.1 = kT l
    · rw [if_pos c] at h
      cases h
      exact ⟨0, g, rfl, kT_inj c, rfl⟩
    · rw [if_neg c] at h
      obtain ⟨m, g', h1, h2, h3⟩ := ih h
      exact ⟨m + 1, g', h1, h2, h3⟩
theorem gp_none {gs : List Gp} {l : Tie} (h : lookA (gpK gs) (kT l) = none) : ∀ g ∈ gs, g.1 ≠ l := by
  induction gs with
  | nil => intro g hg; cases hg
  | cons g gs ih =>
    have h : lookA ((kT g.1, Sd.v (.ref g.2.2)) :: gpK gs) (kT l) = none := h
    rw [lookA_cons] at h
    by_cases c : kT g.1 = kT l
    · rw [if_pos c] at h; cases h
    · rw [if_neg c] at h
      intro g' hg'
      rcases List.mem_cons.mp hg' with rfl | hg'
      · exact fun z => c (by rw [z])
      · exact ih h g' hg'
theorem pure_blocks (w : WebC K C) (h : sp_blocks K C vs H Q E) : t_blocks K C { nx := fun _ H' => Q .non H', rt := Q } (L2.start N_blocks vs) H := by
  refine enterN h fun F ss s hf ha hR hq => ?_
  obtain ⟨n, ts, H0, rfl, g, h16, h40, hH0, rfl⟩ := hR
  refine ⟨_, ha, ?_⟩
  have ok := nearOf_ok g h16
  have hlen := nearOf_len n ts
  have hTl := tiesOf_len g
  have hTn := ties_nodup g
  generalize eN : nearOf n ts = near at *
  have hrow : ∀ p, (near.getD p []).length ≤ 16 := fun p => by rw [← eN]; exact row_len g h16 p
  generalize eT : tiesOf n near = T at *
  have hpT : ∀ {p a : Nat}, a ∈ near.getD p [] → pairOf p a ∈ T := fun {p a} h => by rw [← eT, ← eN]; exact (mem_near g (by rw [eN]; exact h)).2.2.2
  show WP ⟨F, H, []⟩ [.p (WebM C n near), .no, .no, .no, .no, .no, .no, .no, .no] [] (t_blocks K C) _
  refine q_new evN_dnewT fun l hl => ?_
  have hl : H l = none := hl
  refine q_for1 (α := Unit) dTie (Src.list (ev_of' (T.map dTie) (evN_meth (ev_var rfl rfl) (fun F' v hv => selfI hv) ea_nil fun σ H' F' hs => ⟨n, near, rfl, hlen, ok, by rw [eT]⟩) (by rw [List.map_map]; rfl))) (fun _ _ => True) (fun _ _ => [.p (WebM C n near), .v (.ref l), .any, .any, .any, .any, .any, .any, .any])
    (fun i _ => [(l, .dt (labD (T.take i) id))]) (fun G => nx_inv () trivial) ?_ ?_
  · intro G i _ t ht _
    have hni : t ∉ T.take i := by
      intro z
      obtain ⟨j, hj, e⟩ := List.getElem_of_mem z
      have hj' : j < i := by rw [List.length_take] at hj; omega
      rw [List.getElem_take] at e
      obtain ⟨hi, e2⟩ := List.getElem?_eq_some_iff.mp ht
      have := (List.getElem_inj (h₀ := by omega) (h₁ := hi) hTn).mp (e.trans e2.symm)
      omega
    refine s_dputT (k := 0) (x := kT t) (s := .d (dTie t)) rfl (ev_var rfl rfl) (ev_var rfl rfl) (ev_var rfl rfl) (nx_inv () trivial (hC := ?_)) (by unfold labD dictT; rw [List.length_map, List.length_take]; omega)
    rw [take_succ ht]
    unfold labD
    rw [← putT_new hni]; rfl
  intro _ _
  rw [List.take_length]
  refine q_for1 (α := Tie → Tie) dN (Src.rN (ea_cons (ev_many w (ev_var rfl rfl)) ea_nil)) (fun p lab => Snd near lab ∧ ∀ q, q < p → Cpl near lab q) (fun _ _ => [.p (WebM C n near), .v (.ref l), .any, .any, .any, .any, .any, .any, .any])
    (fun _ lab => [(l, .dt (labD T lab))]) (fun G => nx_inv id ⟨fun s t e => by cases e; exact .refl _, fun q hq => absurd hq (Nat.not_lt_zero _)⟩) ?_ ?_
  · intro G i lab p hp ⟨hs, hc⟩
    have hpi : p = i ∧ p < n := by
      have h1 : p < n := by rw [← List.mem_range]; exact List.mem_of_getElem? hp
      have h2 := (List.getElem?_eq_some_iff.mp hp).1
      rw [List.length_range] at h2
      rw [List.getElem?_range h2] at hp
      exact ⟨(Option.some.inj hp).symm, h1⟩
    obtain ⟨rfl, hpn⟩ := hpi
    refine q_asg (s := .d (dNs (near.getD p []))) (ev_of' ((near.getD p []).map dN) (evN_meth (ev_var rfl rfl) (fun F' v hv => selfI hv) (ea_cons (ev_var rfl rfl) ea_nil) fun σ H' F' hs => ⟨n, near, p, rfl, hlen, hpn, rfl⟩) (by rw [List.map_map]; rfl)) ?_
    refine s_while (α := (Tie → Tie) × List Nat) (fun a => Snd near a.1 ∧ (∀ q, q < p → Cpl near a.1 q) ∧ (∀ x ∈ a.2, x ∈ near.getD p []) ∧ a.2.length ≤ 16 ∧ ∀ x y, x ∈ near.getD p [] → y ∈ near.getD p [] → Reach near (fun y => decide (y = p)) x y → (x ∈ a.2 ↔ y ∈ a.2) ∧ (x ∉ a.2 → a.1 (pairOf p x) = a.1 (pairOf p y)))
      (fun a => a.2.length) (fun a => [.p (WebM C n near), .v (.ref l), .any, sN p, .d (dNs a.2), .any, .any, .any, .any]) (fun a => [(l, .dt (labD T a.1))]) (fun a => !decide (a.2 = [])) ?_ ?_ ?_ ?_
    · exact nx_inv (lab, near.getD p []) ⟨hs, hc, fun x h => h, hrow p, fun x y hx hy _ => ⟨⟨fun _ => hy, fun _ => hx⟩, fun z => absurd hx z⟩⟩
    · rintro ⟨lb, left⟩ ⟨i1, i2, i3, i4, i5⟩
      exact et_test (ev_op (ev_var rfl rfl) (ev_of' (([] : List Nat).map dN) evN_lst0 rfl) (rv_neG (f := dNs) (a := left) (b := []) faith_ns (sh_ns _) (sh_ns _)))
    · rintro ⟨lb, left⟩ ⟨i1, i2, i3, i4, i5⟩ hne
      have hne : left ≠ [] := by simpa using hne
      obtain ⟨first, rest, rfl⟩ : ∃ f r, left = f :: r := by
        cases left with
        | nil => exact absurd rfl hne
        | cons f r => exact ⟨f, r, rfl⟩
      dsimp only at i1 i2 i3 i4 i5
      have hfn := i3 first List.mem_cons_self
      have hfx := mem_near g (p := p) (a := first) (by rw [eN]; exact hfn)
      refine q_asg (s := sN first) (ev_op (ev_var rfl rfl) ev_int (rv_xL (atI_nat (j := 0) rfl))) ?_
      have hcm : ∀ x, x ∈ comeTo near (fun y => decide (y = p)) first ↔ Reach near (fun y => decide (y = p)) first x := fun x => by rw [← eN]; exact come_mem g h16 hfx.2.1 x
      refine q_asg (s := .d (dNs (comeTo near (fun y => decide (y = p)) first))) (ev_of' ((comeTo near (fun y => decide (y = p)) first).map dN) (evN_call (ea_cons (ev_near w (ev_var rfl rfl)) (ea_cons (ev_var rfl rfl) (ea_cons (ev_dk (evN_dispK (i := .inl (p : Int)) (s := .d (.bool true)) (fun C' => ev_var rfl rfl) (fun C' => ev_bl))) ea_nil))) fun σ H' F' hs => ⟨near, first, _, _, fun y => decide (y = p), rfl, .inl rfl, ok, by rw [hlen]; exact hfx.2.1, fun v hv => ?_, rfl⟩) (by rw [List.map_map]; rfl)) ?_
      · obtain ⟨a, vs, rfl, h2, h3⟩ := hv
        cases h3 with | cons h3 h4 =>
        cases h4
        rename_i kv
        obtain ⟨kk, vv⟩ := kv
        obtain ⟨e, _⟩ := h3
        have e : kk = .inl (p : Int) := e
        subst e
        exact ⟨a, _, rfl, hs.fh _ _ h2, fun x => valV_one⟩
      refine q_for1 (α := Tie → Tie) dN (Src.list (ev_var rfl rfl)) (fun i lb' => Snd near lb' ∧ (∀ q, q < p → Cpl near lb' q) ∧ (∀ x y, x ∈ near.getD p [] → y ∈ near.getD p [] → Reach near (fun y => decide (y = p)) x y → x ∉ first :: rest → lb' (pairOf p x) = lb' (pairOf p y)) ∧ ∀ x ∈ (first :: rest).take i, Reach near (fun y => decide (y = p)) first x → lb' (pairOf p first) = lb' (pairOf p x))
        (fun _ _ => [.p (WebM C n near), .v (.ref l), .any, sN p, .d (dNs (first :: rest)), sN first, .d (dNs (comeTo near (fun y => decide (y = p)) first)), .any, .any]) (fun _ lb' => [(l, .dt (labD T lb'))]) (fun G => nx_inv lb ⟨i1, i2, fun x y hx hy r z => (i5 x y hx hy r).2 z, fun x hx => by cases hx⟩) ?_ ?_
      · intro G j lb' o ho ⟨j1, j2, j3, j4⟩
        have hom := i3 o (List.mem_of_getElem? ho)
        refine s_when (b := decide (o ∈ comeTo near (fun y => decide (y = p)) first)) (et_B (ev_op (ev_var rfl rfl) (ev_var rfl rfl) rv_inN)) (fun c => ?_) (fun c => ?_)
        · have c := (hcm o).mp (of_decide_eq_true c)
          refine s_callC (k := 0) (x := l) (c' := .dt (labD T (joinLab lb' (pairOf p first) (pairOf p o)))) rfl (ea_cons (ev_var rfl rfl) (ea_cons (ev_call (ea_cons (ev_var rfl rfl) (ea_cons (ev_var rfl rfl) ea_nil)) fun _ _ _ _ => ⟨p, first, rfl, rfl⟩) (ea_cons (ev_call (ea_cons (ev_var rfl rfl) (ea_cons (ev_var rfl rfl) ea_nil)) fun _ _ _ _ => ⟨p, o, rfl, rfl⟩) ea_nil)))
            (fun _ _ => ⟨T, lb', _, _, rfl, rfl, hpT hfn, hpT hom, hTn, by omega, rfl⟩) (nx_inv (joinLab lb' (pairOf p first) (pairOf p o)) ⟨joinLab_snd j1 (.step hfn hom c), fun q hq a b ha hb r => joinLab_keep (j2 q hq a b ha hb r), fun x y hx hy r z => joinLab_keep (j3 x y hx hy r z), fun x hx r => ?_⟩)
          rw [take_succ ho] at hx
          rcases List.mem_append.mp hx with hx | hx
          · exact joinLab_keep (j4 x hx r)
          · have : x = o := by simpa using hx
            subst this; exact joinLab_ab
        · have c : ¬ Reach near (fun y => decide (y = p)) first o := fun z => (of_decide_eq_false c) ((hcm o).mpr z)
          refine nx_inv lb' ⟨j1, j2, j3, fun x hx r => ?_⟩
          rw [take_succ ho] at hx
          rcases List.mem_append.mp hx with hx | hx
          · exact j4 x hx r
          · have : x = o := by simpa using hx
            subst this; exact absurd r c
      · intro lb' ⟨j1, j2, j3, j4⟩
        rw [List.take_length] at j4
        refine s_asg (s := .d (dNs ((first :: rest).filter fun o => !decide (o ∈ comeTo near (fun y => decide (y = p)) first)))) (ev_of' (((first :: rest).filter fun o => !decide (o ∈ comeTo near (fun y => decide (y = p)) first)).map dN) (evN_lc1 dN (fun o => !decide (o ∈ comeTo near (fun y => decide (y = p)) first)) sN (Src.list (ev_var rfl rfl)) (fun B' d _ _ => et_B (ev_op (ev_var rfl rfl) (ev_var rfl rfl) rv_niN)) (fun B' d _ _ _ => ev_var rfl rfl) (by have := i4; omega)) (by rw [List.map_map]; rfl))
          (nx_inv (lb', (first :: rest).filter fun o => !decide (o ∈ comeTo near (fun y => decide (y = p)) first)) ⟨⟨j1, j2, fun x hx => i3 x (List.mem_filter.mp hx).1, Nat.le_trans (List.length_filter_le _ _) i4, fun x y hx hy r => ?_⟩, ?_⟩)
        · have bx : x ≠ p := (mem_near g (by rw [eN]; exact hx)).2.2.1
          have hsym := fun x y => near_sym g x y
          rw [eN] at hsym
          have r' := (reach_symm hsym (by simpa using bx) r).2
          have hb : Reach near (fun y => decide (y = p)) first x ↔ Reach near (fun y => decide (y = p)) first y := ⟨fun z => reach_trans z r, fun z => reach_trans z r'⟩
          have hxy := i5 x y hx hy r
          have hm : ∀ z, z ∈ (first :: rest).filter (fun o => !decide (o ∈ comeTo near (fun y => decide (y = p)) first)) ↔ z ∈ first :: rest ∧ ¬ Reach near (fun y => decide (y = p)) first z := fun z => by
            rw [List.mem_filter]
            have := hcm z
            simp only [Bool.not_eq_true', decide_eq_false_iff_not, this]
          dsimp only
          refine ⟨by rw [hm, hm, hxy.1, hb], fun z => ?_⟩
          rw [hm] at z
          by_cases c : x ∈ first :: rest
          · have cr : Reach near (fun y => decide (y = p)) first x := Classical.byContradiction fun q => z ⟨c, q⟩
            exact (j4 x c cr).symm.trans (j4 y (hxy.1.mp c) (hb.mp cr))
          · exact j3 x y hx hy r c
        · dsimp only
          have hh : first ∈ comeTo near (fun y => decide (y = p)) first := (hcm first).mpr .base
          rw [List.filter_cons, if_neg (by simp [hh])]
          have := List.length_filter_le (fun o => !decide (o ∈ comeTo near (fun y => decide (y = p)) first)) rest
          simp; omega
    · rintro ⟨lb, left⟩ ⟨i1, i2, i3, i4, i5⟩ he
      have he : left = [] := by simpa using he
      subst he
      refine nx_inv lb ⟨i1, fun q hq => ?_⟩
      by_cases c : q < p
      · exact i2 q c
      · have : q = p := by omega
        subst this
        exact fun a b ha hb r => (i5 a b ha hb r).2 (by simp)
  · intro lab ⟨hs, hc⟩
    rw [List.length_range] at hc
    have hcp : ∀ q, Cpl near lab q := fun q => by
      by_cases c : q < n
      · exact hc q c
      · intro a b ha
        rw [List.getD_eq_getElem?_getD, List.getElem?_eq_none (by omega)] at ha
        cases ha
    have hrel : ∀ s t, sameL lab s t = bR near s t := fun s t => by
      rw [Bool.eq_iff_iff, bR_iff, ← lab_rel hs hcp]; unfold sameL; simp
    refine q_new evN_dnewT fun f hf => ?_
    have hf : H f = none := hf
    refine q_for1 (α := List Gp) dTie (Src.list (ev_of' (T.map dTie) (evN_cb (ea_cons (ev_var rfl rfl) ea_nil) (rcN_sortT2 (k := 1) (ps := T.map intT) rfl (by unfold labD dictT; rw [List.map_map, List.map_map]; rfl))) ?_)) (fun i gs => gs.map (fun g => (g.1, g.2.1)) = grp lab (T.take i) ∧ ∀ g ∈ gs, H g.2.2 = none)
      (fun _ _ => [.p (WebM C n near), .v (.ref l), .any, .any, .any, .any, .any, .any, .v (.ref f)]) (fun i gs => (f, .dt (gpK gs)) :: gpC gs ++ [(l, .dt (labD T lab))]) (fun G => nx_inv [] ⟨rfl, fun g hg => by cases hg⟩) ?_ ?_
    · have := ties_sort g
      rw [eN, eT] at this
      rw [this, List.map_map, List.map_map]; rfl
    · intro G i gs t ht ⟨hg, hgH⟩
      have hm : t ∈ T := List.mem_of_getElem? ht
      have hgl : gs.length ≤ 40 := by
        have h1 := congrArg List.length hg
        rw [List.length_map] at h1
        have h2 := grp_len lab (T.take i)
        rw [List.length_take] at h2
        omega
      have hgs : ∀ g ∈ gs, g.2.1.length ≤ 40 := fun g' hg' => by
        have h1 : (g'.1, g'.2.1) ∈ grp lab (T.take i) := by rw [← hg]; exact List.mem_map.mpr ⟨g', hg', rfl⟩
        rw [grp_eq] at h1
        obtain ⟨k, _, e⟩ := List.mem_map.mp h1
        have e2 : (T.take i).filter (fun t => sameL lab (at0 (T.take i) k) t) = g'.2.1 := congrArg (·.2) e
        rw [← e2]
        have := List.length_filter_le (fun t => sameL lab (at0 (T.take i) k) t) (T.take i)
        rw [List.length_take] at this
        omega
      have hlk : ((f, Cd.dt (gpK gs)) :: gpC gs ++ [(l, Cd.dt (labD T lab))])[gs.length + 1]? = some (l, .dt (labD T lab)) := by
        show (gpC gs ++ [(l, Cd.dt (labD T lab))])[gs.length]? = _
        have : (gpC gs).length = gs.length := by unfold gpC; rw [List.length_map]
        rw [List.getElem?_append_right (by omega), this]; simp
      refine s_setdApp (k := 0) (x := kT (lab t)) rfl (ev_var rfl rfl) (ev_dgetT (x := kT t) hlk (ev_var rfl rfl) (ev_var rfl rfl) (lookT hm)) (fun C' => ev_var (s := .d (dTie t)) rfl rfl) (by unfold gpK; rw [List.length_map]; omega) (fun sd hsd => ?_) (fun hn p hp => ?_)
      · obtain ⟨m, g', h1, h2, rfl⟩ := gp_look hsd
        have hml := (List.getElem?_eq_some_iff.mp h1).1
        have hgm : g' ∈ gs := List.mem_of_getElem? h1
        refine ⟨m + 1, g'.2.2, g'.2.1.map fun t => Sd.d (dTie t), rfl, ?_, by rw [List.length_map]; have := hgs g' hgm; omega, nx_inv (gs.set m (g'.1, g'.2.1 ++ [t], g'.2.2)) ⟨?_, ?_⟩ (hC := ?_)⟩
        · show (gpC gs ++ [(l, Cd.dt (labD T lab))])[m]? = _
          rw [List.getElem?_append_left (by unfold gpC; rw [List.length_map]; exact hml)]
          unfold gpC
          rw [List.getElem?_map, h1]; rfl
        · rw [take_succ ht, grp_snoc, ← hg]
          unfold addG
          rw [if_pos (List.mem_map.mpr ⟨(g'.1, g'.2.1), List.mem_map.mpr ⟨g', hgm, rfl⟩, h2⟩), if_set (m := m) (r := g'.2.1) (by rw [hg]; exact grp_nodup _ _) (by rw [List.getElem?_map, h1, ← h2]; rfl), List.map_set, ← h2]
        · intro x hx
          rcases List.mem_or_eq_of_mem_set hx with hx | rfl
          · exact hgH x hx
          · exact hgH g' hgm
        · show (f, Cd.dt (gpK gs)) :: (gpC gs ++ [(l, Cd.dt (labD T lab))]).set m _ = (f, Cd.dt (gpK (gs.set m _))) :: gpC (gs.set m _) ++ [(l, Cd.dt (labD T lab))]
          have e1 : gpK (gs.set m (g'.1, g'.2.1 ++ [t], g'.2.2)) = gpK gs := by
            unfold gpK
            rw [List.map_set]
            exact set_same (by rw [List.getElem?_map, h1]; rfl)
          have e2 : gpC (gs.set m (g'.1, g'.2.1 ++ [t], g'.2.2)) = (gpC gs).set m (g'.2.2, .lst ((g'.2.1 ++ [t]).map fun t => Sd.d (dTie t))) := by
            unfold gpC; rw [List.map_set]
          rw [e1, e2, List.set_append_left _ _ (by unfold gpC; rw [List.length_map]; exact hml)]
          simp
      · have hno : lab t ∉ (grp lab (T.take i)).map (·.1) := by
          rw [← hg, List.map_map]
          intro z
          obtain ⟨g', hg', e⟩ := List.mem_map.mp z
          exact gp_none hn g' hg' e
        refine nx_perm (C' := (f, .dt (gpK (gs ++ [(lab t, [t], p)]))) :: gpC (gs ++ [(lab t, [t], p)]) ++ [(l, .dt (labD T lab))]) ?_ (nx_inv (gs ++ [(lab t, [t], p)]) ⟨?_, ?_⟩)
        · have e1 : putA (gpK gs) (kT (lab t)) (.v (.ref p)) = gpK (gs ++ [(lab t, [t], p)]) := by
            rw [putA_new _ hn]; unfold gpK; rw [List.map_append]; rfl
          have e2 : gpC (gs ++ [(lab t, [t], p)]) = gpC gs ++ [(p, .lst [.d (dTie t)])] := by unfold gpC; rw [List.map_append]; rfl
          rw [e2]
          show ((p, Cd.lst [.d (dTie t)]) :: (f, .dt (putA (gpK gs) (kT (lab t)) (.v (.ref p)))) :: (gpC gs ++ [(l, .dt (labD T lab))])).Perm ((f, .dt (gpK (gs ++ [(lab t, [t], p)]))) :: ((gpC gs ++ [(p, .lst [.d (dTie t)])]) ++ [(l, .dt (labD T lab))]))
          rw [e1]
          refine (List.Perm.swap _ _ _).trans (List.Perm.cons _ ?_)
          rw [List.append_assoc]
          exact List.perm_middle.symm
        · rw [take_succ ht, grp_snoc, ← hg, List.map_append]
          unfold addG
          rw [if_neg (by rw [hg]; exact hno)]; rfl
        · intro x hx
          rcases List.mem_append.mp hx with hx | hx
          · exact hgH x hx
          · have : x = (lab t, [t], p) := by simpa using hx
            subst this; exact hp
    · intro gs ⟨hg, hgH⟩
      rw [List.take_length] at hg
      have hrows : gs.map (fun g => g.2.1) = rowsOf (bR near) T := by
        rw [← rowsOf_congr (fun s _ t _ => hrel s t), ← grp_rows, ← hg, List.map_map]; rfl
      have eK : gpK gs = (gs.map fun g => (kT g.1, g.2.1.map dTie, g.2.2)).map fun g => (g.1, Sd.v (.ref g.2.2)) := by unfold gpK; rw [List.map_map]; rfl
      have eC : gpC gs = (gs.map fun g => (kT g.1, g.2.1.map dTie, g.2.2)).map fun g => (g.2.2, Cd.lst (g.2.1.map Sd.d)) := by
        unfold gpC; rw [List.map_map]
        refine List.map_congr_left fun g _ => ?_
        show (g.2.2, Cd.lst _) = (g.2.2, Cd.lst ((g.2.1.map dTie).map Sd.d))
        rw [List.map_map]; rfl
      rw [eK, eC]
      refine wp_frzG (H0 := H0) (fun a h => hH0 a h) (fun g' hg' => ?_) ?_
      · obtain ⟨g'', h1, rfl⟩ := List.mem_map.mp hg'
        exact hgH g'' h1
      have e3 : ((gs.map fun g => (kT g.1, g.2.1.map dTie, g.2.2)).map fun g => (g.1, Sd.p (NewD H0 g.2.1))).map (·.2) = ((blk n near).map fun r => r.map dTie).map fun r => .p (NewD H0 r) := by
        unfold blk
        rw [eT, ← hrows, List.map_map, List.map_map, List.map_map, List.map_map]; rfl
      have e4 : (blk n near).map (fun r => Sd.p (NewD H0 (r.map dTie))) = ((blk n near).map fun r => r.map dTie).map fun r => .p (NewD H0 r) := by rw [List.map_map]; rfl
      rw [e4] at hq
      refine s_retE (evN_cb (ea_cons (ev_lstM (evN_eq (evN_listV (k := 0) rfl (ev_var rfl rfl)) (by rw [e3]))) ea_nil) (rcN_sortM (rows_alike _) (rows_depth _) ?_)) hq (by simp; exact ⟨hf, hl⟩)
      unfold blk
      rw [← eN]
      exact blk_sorted g (bR (nearOf n ts)) (fun a => bR_iff.mpr (.refl a)) fun a b h => bR_iff.mpr (bR_iff.mp h).symm
end
end FB

set_option Elab.async false
set_option linter.all false
set_option maxRecDepth 100000
set_option maxHeartbeats 1000000
set_option autoImplicit false
/-! ties that lie in order; the laws' blocks -/
namespace FT
open PySem L2 FD FW FX FQ FA FM FN FZ FB
structure Nrm (n : Nat) (T : List Tie) : Prop where
  rng : ∀ t ∈ T, t.1 < t.2 ∧ t.2 < n
  pw : (T.map intT).Pairwise fun a b => leP a b = true ∧ a ≠ b
theorem Nrm.good {n : Nat} {T : List Tie} (h : Nrm n T) : Good n T := by
  refine ⟨fun t ht => ?_, ?_⟩
  · have := h.rng t ht; omega
  · have hp := List.pairwise_map.mp h.pw
    refine hp.imp_of_mem fun {a b} ha hb hab => ?_
    have h1 := h.rng a ha
    have h2 := h.rng b hb
    refine ⟨fun e => hab.2 (by rw [e]), fun e => ?_⟩
    rw [e] at h1
    dsimp only at h1
    omega
theorem strictP {as bs : List Tie} (h1 : (as.map intT).Pairwise fun a b => leP a b = true ∧ a ≠ b) (h2 : (bs.map intT).Pairwise fun a b => leP a b = true ∧ a ≠ b) (h : ∀ x, x ∈ as ↔ x ∈ bs) : as = bs := by
  have n1 : as.Nodup := List.Pairwise.of_map intT (fun a b hab e => hab (by rw [e])) (h1.imp fun h => h.2)
  have n2 : bs.Nodup := List.Pairwise.of_map intT (fun a b hab e => hab (by rw [e])) (h2.imp fun h => h.2)
  have hp : as.Perm bs := (List.perm_ext_iff_of_nodup n1 n2).mpr h
  refine hp.eq_of_pairwise (fun a b _ _ x y => ?_) (List.pairwise_map.mp (h1.imp fun h => h.1)) (List.pairwise_map.mp (h2.imp fun h => h.1))
  have := leP_anti x y
  unfold intT at this
  simp only [Prod.mk.injEq] at this
  obtain ⟨a1, a2⟩ := a; obtain ⟨b1, b2⟩ := b
  simp only [Prod.mk.injEq] at *
  omega
theorem Nrm.ties {n : Nat} {T : List Tie} (h : Nrm n T) : tiesOf n (nearOf n T) = T := by
  have g := h.good
  refine strictP (tiesOf_pw (nearOf n T) (nearOf_row n T g) n) h.pw fun t => ?_
  rw [mem_tiesOf]
  have m := nearOf_mem n T (fun s hs => ⟨(g.rng s hs).1, (g.rng s hs).2.1⟩)
  rw [m]
  constructor
  · rintro ⟨h1, h2, h3 | h3⟩
    · exact h3
    · have := h.rng _ h3; dsimp only at this; omega
  · intro ht
    have := h.rng t ht
    exact ⟨by omega, this.1, .inl ht⟩
theorem tiesOf_nrm {n : Nat} {ts : List Tie} (g : Good n ts) : Nrm n (tiesOf n (nearOf n ts)) := by
  refine ⟨fun t ht => ?_, tiesOf_pw (nearOf n ts) (nearOf_row n ts g) n⟩
  obtain ⟨h1, h2, h3⟩ := mem_tiesOf.mp ht
  exact ⟨h2, (mem_near g h3).2.1⟩
def oth (p : Nat) (t : Tie) : Nat := t.1 + t.2 - p
def hasP (p : Nat) (t : Tie) : Bool := decide (p = t.1) || decide (p = t.2)
theorem hasP_iff {p : Nat} {t : Tie} : hasP p t = true ↔ p = t.1 ∨ p = t.2 := by unfold hasP; simp
theorem Nrm.others {n : Nat} {T : List Tie} (h : Nrm n T) (x : Nat) : (T.filter (hasP x)).map (oth x) = (nearOf n T).getD x [] := by
  have g := h.good
  have m := nearOf_mem n T (fun s hs => ⟨(g.rng s hs).1, (g.rng s hs).2.1⟩)
  refine strict_eq ?_ (nearOf_row n T g x) fun y => ?_
  · rw [List.pairwise_map, List.pairwise_filter]
    refine (List.pairwise_map.mp h.pw).imp_of_mem fun {a b} ha hb hab h1 h2 => ?_
    have r1 := h.rng a ha
    have r2 := h.rng b hb
    have h1 := hasP_iff.mp h1
    have h2 := hasP_iff.mp h2
    obtain ⟨l1, l2⟩ := hab
    unfold leP intT at l1
    unfold intT at l2
    simp only [decide_eq_true_eq, ne_eq, Prod.mk.injEq] at l1 l2
    unfold oth
    omega
  · rw [m, List.mem_map]
    constructor
    · rintro ⟨t, ht, rfl⟩
      obtain ⟨ht, hx⟩ := List.mem_filter.mp ht
      obtain ⟨a, b⟩ := t
      unfold oth
      rcases hasP_iff.mp hx with e | e
      · dsimp only at e; subst e
        left
        have : x + b - x = b := by omega
        rw [this]; exact ht
      · dsimp only at e; subst e
        right
        have : a + x - x = a := by omega
        rw [this]; exact ht
    · rintro (ht | ht)
      · exact ⟨_, List.mem_filter.mpr ⟨ht, hasP_iff.mpr (.inl rfl)⟩, by unfold oth; dsimp only; omega⟩
      · exact ⟨_, List.mem_filter.mpr ⟨ht, hasP_iff.mpr (.inr rfl)⟩, by unfold oth; dsimp only; omega⟩
/-! ### what the law joins -/
def own (T : List Tie) (p : Nat) : List Nat := (List.range T.length).filter fun k => hasP p (at0 T k)
def joins (near : List (List Nat)) (T : List Tie) (p k : Nat) : List Tie := ((own T p).filter fun j => decide (oth p (at0 T j) ∈ comeTo near (fun y => decide (y = p)) (oth p (at0 T k)))).map fun j => (k, j)
def pairsAt (near : List (List Nat)) (T : List Tie) (p : Nat) : List Tie := (own T p).flatMap (joins near T p)
def pairsL (near : List (List Nat)) (T : List Tie) (n : Nat) : List Tie := (List.range n).flatMap (pairsAt near T)
theorem mem_own {T : List Tie} {p k : Nat} : k ∈ own T p ↔ k < T.length ∧ hasP p (at0 T k) = true := by
  unfold own; rw [List.mem_filter, List.mem_range]
theorem mem_pairsL {near : List (List Nat)} {T : List Tie} {n k j : Nat} : (k, j) ∈ pairsL near T n ↔ ∃ p, p < n ∧ k ∈ own T p ∧ j ∈ own T p ∧ oth p (at0 T j) ∈ comeTo near (fun y => decide (y = p)) (oth p (at0 T k)) := by
  unfold pairsL pairsAt joins
  simp only [List.mem_flatMap, List.mem_range, List.mem_map, List.mem_filter, decide_eq_true_eq, Prod.mk.injEq]
  constructor
  · rintro ⟨p, hp, k', hk, j', ⟨hj, hc⟩, rfl, rfl⟩; exact ⟨p, hp, hk, hj, hc⟩
  · rintro ⟨p, hp, hk, hj, hc⟩; exact ⟨p, hp, k, hk, j, ⟨hj, hc⟩, rfl, rfl⟩
theorem pairsL_rng {near : List (List Nat)} {T : List Tie} {n : Nat} : ∀ t ∈ pairsL near T n, t.1 < T.length ∧ t.2 < T.length := by
  rintro ⟨k, j⟩ h
  obtain ⟨p, _, h1, h2, _⟩ := mem_pairsL.mp h
  exact ⟨(mem_own.mp h1).1, (mem_own.mp h2).1⟩
section
variable {n : Nat} {T : List Tie}
theorem at0_inj (h : T.Nodup) {j k : Nat} (hj : j < T.length) (hk : k < T.length) (e : at0 T j = at0 T k) : j = k := by
  have h1 := at0_get hj
  have h2 := at0_get hk
  rw [e] at h1
  exact (List.getElem?_inj hj h).mp (h1.trans h2.symm)
/-- a tie at p, seen from p -/
theorem pair_at (h : Nrm n T) {p k : Nat} (hk : k ∈ own T p) : at0 T k = pairOf p (oth p (at0 T k)) ∧ oth p (at0 T k) ∈ (nearOf n T).getD p [] ∧ p < n ∧ oth p (at0 T k) < n ∧ oth p (at0 T k) ≠ p := by
  obtain ⟨h1, h2⟩ := mem_own.mp hk
  have hm := at0_mem h1
  have hr := h.rng _ hm
  have e : oth p (at0 T k) ∈ (nearOf n T).getD p [] := by
    rw [← h.others p]; exact List.mem_map.mpr ⟨_, List.mem_filter.mpr ⟨hm, h2⟩, rfl⟩
  have h3 := hasP_iff.mp h2
  generalize at0 T k = t at *
  obtain ⟨a, b⟩ := t
  unfold oth at *
  dsimp only at *
  refine ⟨?_, e, by omega, by omega, by omega⟩
  unfold pairOf
  simp only [Prod.mk.injEq]
  omega
theorem own_of (h : Nrm n T) {p a : Nat} (ha : a ∈ (nearOf n T).getD p []) : ∃ k, k ∈ own T p ∧ at0 T k = pairOf p a ∧ oth p (at0 T k) = a := by
  obtain ⟨h1, h2, h3, h4⟩ := mem_near h.good ha
  rw [h.ties] at h4
  obtain ⟨k, hk, e⟩ := mem_at0 h4
  refine ⟨k, mem_own.mpr ⟨hk, ?_⟩, e, ?_⟩
  · rw [e, hasP_iff]; unfold pairOf; dsimp only; omega
  · rw [e]; unfold oth pairOf; dsimp only; omega
theorem conn_rel (h : Nrm n T) (hn : n ≤ 16) {j k : Nat} (hj : j < T.length) (hk : k < T.length) : Conn (pairsL (nearOf n T) T n) j k ↔ BRel (nearOf n T) (at0 T j) (at0 T k) := by
  have g := h.good
  have nd := ties_nodup g
  rw [h.ties] at nd
  constructor
  · intro c
    induction c with
    | refl x => exact .refl _
    | @tie x y hm =>
      obtain ⟨p, hp, h1, h2, h3⟩ := mem_pairsL.mp hm
      have p1 := pair_at h h1
      have p2 := pair_at h h2
      rw [p1.1, p2.1]
      exact .step p1.2.1 p2.2.1 ((come_mem g hn p1.2.2.2.1 _).mp h3)
    | symm _ ih => exact (ih hk hj).symm
    | @trans x y z a b i1 i2 =>
      have hy : y < T.length := (Conn.rng pairsL_rng a).mp hj
      exact (i1 hj hy).trans (i2 hy hk)
  · intro b
    have hin : ∀ {s t : Tie}, BRel (nearOf n T) s t → (s ∈ T ↔ t ∈ T) := by
      intro s t b
      induction b with
      | refl t => exact Iff.rfl
      | step ha hb r =>
        have h1 := (mem_near g ha).2.2.2
        have h2 := (mem_near g hb).2.2.2
        rw [h.ties] at h1 h2
        exact ⟨fun _ => h2, fun _ => h1⟩
      | symm _ ih => exact ih.symm
      | trans _ _ i1 i2 => exact i1.trans i2
    have key : ∀ {s t : Tie}, BRel (nearOf n T) s t → ∀ j k, j < T.length → k < T.length → at0 T j = s → at0 T k = t → Conn (pairsL (nearOf n T) T n) j k := by
      intro s t b
      induction b with
      | refl t => intro j k hj hk e1 e2; rw [at0_inj nd hj hk (e1.trans e2.symm)]; exact .refl _
      | @step p a b ha hb r =>
        intro j k hj hk e1 e2
        obtain ⟨j', hj', f1, f2⟩ := own_of h ha
        obtain ⟨k', hk', f3, f4⟩ := own_of h hb
        have ej := at0_inj nd hj (mem_own.mp hj').1 (e1.trans f1.symm)
        have ek := at0_inj nd hk (mem_own.mp hk').1 (e2.trans f3.symm)
        subst ej; subst ek
        refine .tie (mem_pairsL.mpr ⟨p, (mem_near g ha).1, hj', hk', ?_⟩)
        rw [f2, f4]
        exact (come_mem g hn (mem_near g ha).2.1 _).mpr r
      | symm _ ih => intro j k hj hk e1 e2; exact (ih k j hk hj e2 e1).symm
      | @trans s t u a b i1 i2 =>
        intro j k hj hk e1 e2
        have hs : s ∈ T := by rw [← e1]; exact at0_mem hj
        have ht : t ∈ T := (hin a).mp hs
        obtain ⟨i, hi, e⟩ := mem_at0 ht
        exact (i1 j i hj hi e1 e).trans (i2 i k hi hk e e2)
    exact key b j k hj hk rfl rfl
theorem range_map_at0 (T : List Tie) : (List.range T.length).map (at0 T) = T := by
  apply List.ext_getElem?
  intro i
  by_cases c : i < T.length
  · rw [List.getElem?_map, List.getElem?_range c, at0_get c]; rfl
  · rw [List.getElem?_eq_none (by simpa using c), List.getElem?_eq_none (by omega)]
theorem due_blk (h : Nrm n T) (hn : n ≤ 16) {L : List Nat} (hL : LabOk T.length (pairsL (nearOf n T) T n) L) : ((List.range T.length).map fun l => (labRow L T.length l).map (at0 T)).filter (fun r => decide (r ≠ [])) = blk n (nearOf n T) := by
  unfold blk
  rw [h.ties]
  have hb : ∀ j k, j < T.length → k < T.length → (bR (nearOf n T) (at0 T j) (at0 T k) = true ↔ lab L j = lab L k) := fun j k hj hk => by
    rw [bR_iff, ← conn_rel h hn hj hk, ← hL.iff j k hj hk]
  rw [List.filter_map]
  unfold FN.rowsOf
  have e1 : (List.range T.length).filter ((fun r => decide (r ≠ [])) ∘ fun l => (labRow L T.length l).map (at0 T)) = (List.range T.length).filter (isMin (bR (nearOf n T)) T) := by
    refine List.filter_congr fun l hl => ?_
    have hl := List.mem_range.mp hl
    have hr := labRow_nil hL hl
    show decide ((labRow L T.length l).map (at0 T) ≠ []) = isMin (bR (nearOf n T)) T l
    rw [Bool.eq_iff_iff, decide_eq_true_eq]
    have e0 : (labRow L T.length l).map (at0 T) ≠ [] ↔ lab L l = l := by rw [← hr, ne_eq, List.map_eq_nil_iff]
    rw [e0]
    unfold isMin
    rw [List.all_eq_true]
    constructor
    · intro e j hj
      have hj := List.mem_range.mp hj
      cases q : bR (nearOf n T) (at0 T j) (at0 T l) with
      | false => rfl
      | true =>
        have := (hb j l (by omega) hl).mp q
        have := hL.le j (by omega)
        omega
    · intro hm
      have hle := hL.le l hl
      by_cases c : lab L l = l
      · exact c
      · have hlt : lab L l < l := by omega
        have := hm (lab L l) (List.mem_range.mpr hlt)
        rw [(hb (lab L l) l (by omega) hl).mpr (hL.fix l hl)] at this
        cases this
  rw [e1]
  refine List.map_congr_left fun l hl => ?_
  obtain ⟨hl, hm⟩ := List.mem_filter.mp hl
  have hl' := List.mem_range.mp hl
  have hfix : lab L l = l := by
    have : l ∈ (List.range T.length).filter ((fun r => decide (r ≠ [])) ∘ fun l => (labRow L T.length l).map (at0 T)) := by rw [e1]; exact List.mem_filter.mpr ⟨hl, hm⟩
    have h2 := (List.mem_filter.mp this).2
    have h2 : (labRow L T.length l).map (at0 T) ≠ [] := of_decide_eq_true h2
    refine (labRow_nil hL hl').mp fun z => h2 (by rw [z]; rfl)
  have e2 : T.filter (fun t => bR (nearOf n T) (at0 T l) t) = ((List.range T.length).map (at0 T)).filter (fun t => bR (nearOf n T) (at0 T l) t) := by rw [range_map_at0]
  rw [e2, List.filter_map]
  unfold labRow
  congr 1
  refine List.filter_congr fun k hk => ?_
  have hk := List.mem_range.mp hk
  show decide (lab L k = l) = bR (nearOf n T) (at0 T l) (at0 T k)
  rw [Bool.eq_iff_iff, decide_eq_true_eq, hb l k hl' hk, hfix]
  exact ⟨fun e => e.symm, fun e => e.symm⟩
end
end FT

set_option Elab.async false
set_option linter.all false
set_option maxRecDepth 100000
set_option maxHeartbeats 1000000
set_option autoImplicit false
/-! list(reversed(x)), remove and min of data -/
namespace FV
open PySem PySem.Spec PyProof.Rows PySem.Calls PySem.W PySem.SeqAt RT
open L2 hiding St
section
variable {prog : Program} {w : World} {A : Around} {E : Value → Shared → Prop} {s : Shared}
theorem rev_extend {it l S : Addr} {items : Array Value} {c₀ : Nat} {R : Result → Shared → Prop} (res : Value) (hh : A.handled = none) (hit : s.heap.IsRevIter it l ((items.size : Int) - 1)) (hl : s.heap.IsList l items) (hne : l ≠ it) (hn : items.size ≤ sizeLine)
    (hSi : S ≠ it) (hSl : S ≠ l) (hS : s.heap.get? S = some { cls := .type "list", data := .seq #[] c₀ })
    (hR : ∀ h' tk acc' c', (∀ b o, b ≠ S → b ≠ it → s.heap.get? b = some o → h'.get? b = some o) → h'.get? S = some { cls := .type "list", dict := none, data := .seq acc' c', slots := #[] } → ItemsOf (fun i v => items[items.size - 1 - i]? = some v) acc' items.size → R (.ok (.ret res)) { s with heap := h', toks := tk }) :
    wpAny (model prog w) A.in1 (Builtin.List.listExtendWith (.ref S) (.ref it) res)
      (fun fin s' => match fin with | .done f => R (.ok f) s' | .again c' => c'.quiet = true ∧ codeAny (model prog w) A c' R s') (fun e s' => R (.error e) s') s := by
  have W := (Walks.listRev (prog := prog) (w := w) (A := A.in1) hh it l hne items).toS
  have hSf : S ∉ [it, l] := by simp only [List.mem_cons, List.not_mem_nil, or_false, not_or]; exact ⟨hSi, hSl⟩
  have hT : s.TypeIs (.ref it) "list_reverseiterator" := Heap.IsRevIter.typeIs hit
  have h1 : Builtin.List.listSameRef (.ref S) (.ref it) = false := by simp [Builtin.List.listSameRef, hSi]
  unfold Builtin.List.listExtendWith
  refine wpAny_bind (wpAny_typeOf hT ?_)
  rw [if_neg (by rw [h1]; decide)]
  refine wpAny_bind (wpAny_pyIter_revIter hit ?_)
  refine wpAny_bind (wpAny_holding ?_)
  unfold Builtin.List.listLengthHint
  refine wpAny_bind (wpAny_specialOf hT RT.nolen_lri ?_)
  show wpAny _ A.in1 (specialOf (Value.ref it) (Str.ofString "__length_hint__") >>= _) _ _ _
  refine wpAny_bind (wpAny_specialOf hT RT.hint_lri ?_)
  generalize hid : ("list_reverseiterator.__length_hint__" : String) = id0
  wp_delta
  rw [show splitId id0 = some ("list_reverseiterator", "__length_hint__") from by subst hid; decide +kernel]
  subst hid
  refine wpAny_bind (wpAny_isInstance (b := true) hT (by rw [isSubtype_type]; kernel_rfl) ?_)
  refine wpAny_pure ?_
  rw [if_neg (by decide)]
  have e0 : ((items.size : Nat) : Int) - 1 - ((0 : Nat) : Int) = (items.size : Int) - 1 := by omega
  refine wpAny_pure ⟨plainId_quiet PySem.F.plain_extend_loop _, codeAny_extend_loopS W hn _ hSf _ items.size 0 _ _ _ rfl (Nat.zero_le _) ⟨Nat.zero_le _, by rw [e0]; exact hit, hl⟩ hS (ItemsOf.nil _) fun s' acc' c' hm hS' hacc => ?_⟩
  rw [Moved.eq_with hm]
  refine hR s'.heap s'.toks acc' c' (fun b o hb hb2 e => hm.heap b o (fun hmem => ?_) e) hS' hacc
  rcases List.mem_cons.mp hmem with e' | hmem
  · exact hb e'
  · exact hb2 (List.mem_singleton.mp hmem)
theorem rev_list {it l : Addr} {items : Array Value} {Q : Value → Shared → Prop} (hh : A.handled = none) (hit : s.heap.IsRevIter it l ((items.size : Int) - 1)) (hl : s.heap.IsList l items) (hne : l ≠ it) (hn : items.size ≤ sizeLine)
    (hQ : ∀ h' tk acc' c', (∀ b o, b ≠ it → s.heap.get? b = some o → h'.get? b = some o) → h'.get? s.heap.objs.size = some { cls := .type "list", dict := none, data := .seq acc' c', slots := #[] } → ItemsOf (fun i v => items[items.size - 1 - i]? = some v) acc' items.size → Q (.ref s.heap.objs.size) { s with heap := h', toks := tk }) :
    wpAny (model prog w) A (call (.type "list") [.ref it]) Q E s := by
  refine callType_codes (Q₁ := fun obj s₁ => obj = .ref s.heap.objs.size ∧ s₁ = { s with heap := s.heap.push { cls := .type "list", data := .seq #[] } }) PySem.F.called_list (PySem.F.typeCall_list_1 _) PySem.F.entry_list_init
    (code_list_new _ ⟨rfl, rfl⟩) fun obj s₁ h₁ => ?_
  obtain ⟨rfl, rfl⟩ := h₁
  have hS : (s.heap.push { cls := .type "list", data := .seq #[] }).get? s.heap.objs.size = some { cls := .type "list", data := .seq #[] } := Heap.get?_push_size _ rfl
  obtain ⟨oi, hoi, _⟩ := id hit
  obtain ⟨ol, hol, _⟩ := id hl
  have hSi : s.heap.objs.size ≠ it := Nat.ne_of_gt (Heap.lt_size hoi)
  have hSl : s.heap.objs.size ≠ l := Nat.ne_of_gt (Heap.lt_size hol)
  refine ⟨⟨_, hS, rfl⟩, PySem.F.args_list_init_2 _ _, ?_⟩
  have k0 : ∀ b o, s.heap.get? b = some o → ((s.heap.push { cls := .type "list", data := .seq #[] }).update s.heap.objs.size (Obj.mapSeq (fun _ => (#[] : Array Value)))).get? b = some o := fun b o e =>
    (Heap.get?_update_other _ _ (Nat.ne_of_gt (Heap.lt_size e))).trans (Heap.get?_push_of_some _ e)
  show wpAny _ _ (do let old ← Builtin.List.listItems (.ref s.heap.objs.size); Builtin.List.listUpdate (.ref s.heap.objs.size) (fun _ => #[]); letGo old.toList.reverse; Builtin.List.listExtendWith (.ref s.heap.objs.size) (.ref it) .none) _ _ _
  refine wpAny_bind ?_
  unfold Builtin.List.listItems
  refine wpAny_bind (wpAny_seqItems hS rfl (wpAny_pure ?_))
  show wpAny _ _ (updateSeq s.heap.objs.size (fun _ => #[]) >>= fun _ => letGo (#[] : Array Value).toList.reverse >>= fun _ => Builtin.List.listExtendWith (.ref s.heap.objs.size) (.ref it) .none) _ _ _
  refine wpAny_bind (wpAny_updateSeq hS rfl ?_)
  have hS₂ := Heap.get?_update_self (Obj.mapSeq (fun _ => (#[] : Array Value))) hS rfl
  refine wpAny_bind (wpAny_letGo ?_)
  refine rev_extend (A := A.in1) .none hh (hit.at fun o e => k0 _ _ e) (let ⟨o, ho, r⟩ := hl; ⟨o, k0 _ _ ho, r⟩) hne hn hSi hSl hS₂ fun h' tk acc' c' hk hS' hacc => ?_
  exact ⟨rfl, hQ h' tk acc' c' (fun b o hb e => hk b o (Nat.ne_of_lt (Heap.lt_size e)) hb (k0 b o e)) hS' hacc⟩
end
/-- list(reversed(x)), x a list: a new list -/
def tLstRev (K : PySem.W.Frag) (te : TE) : TE := fun σ H Q => te σ H fun v H1 => ∃ (a : Addr) (xs : List V), v = .ref a ∧ SqL K H1 a xs ∧ ∀ q, H1 q = none → Q (.ref q) (upd H1 q (.lst xs.reverse))
section
variable {X : Cx}
theorem pe_lstRev {e : Expr} {te : TE} {p p2 pos pos2 : Pos} (hc : X.calm = true) (hg : Gl X "list") (hm : X.mg "list" = none) (hg2 : Gl X "reversed") (hm2 : X.mg "reversed" = none) (he : PE X e te)
    (hs : starEach [e] X.env = (false, eval e X.env) :: starEach [] X.env := by rfl)
    (hs2 : starEach [.Call (.Name "reversed" p2) [e] [] pos2] X.env = (false, eval (.Call (.Name "reversed" p2) [e] [] pos2) X.env) :: starEach [] X.env := by rfl) :
    PE X (.Call (.Name "list" p) [.Call (.Name "reversed" p2) [e] [] pos2] [] pos) (tLstRev X.K te) := by
  refine ⟨fun pins s σ H Q I h => ?_⟩
  refine Call_ (ld_blt I hg hm boot_list (PyProof.Rows.callWith_type1 (args_cons (Call_ (ld_blt I hg2 hm2 PyProof.Rows.boot_reversed (PyProof.Rows.callWith_type1 (args_cons (thn (he.run pins s σ H _ I h) fun u s1 ⟨v, H1, I1, r1, q1⟩ => args_nil ?_) hs) hs rfl))) hs2) hs2 rfl))
  obtain ⟨a, xs, ev, hq, q⟩ := q1
  subst ev
  obtain rfl : u = Value.ref a := r1
  obtain ⟨its, rv, p', hz⟩ := I1.list hq
  refine call_reversed_list p'.isList (args_nil ?_)
  have k0 : ∀ b o, s1.heap.get? b = some o → (s1.heap.push (revObj a ((its.toArray.size : Int) - 1))).get? b = some o := fun b o e => Heap.get?_push_of_some _ e
  have I2 : Inv X pins σ H1 { s1 with heap := s1.heap.push (revObj a ((its.toArray.size : Int) - 1)) } := I1.kept (t' := s1.toks) k0
  obtain ⟨f0, f1, f2, f3, f4, f5⟩ := I1.fpOk (H' := H1) (b := s1.heap.objs.size) (Nat.le_refl _) (I1.hok.fresh (Nat.le_refl _))
  have hl := p'.isList
  obtain ⟨ol, hol, _⟩ := id hl
  have hne : a ≠ s1.heap.objs.size := Nat.ne_of_lt (Heap.lt_size hol)
  have hn : its.toArray.size ≤ sizeLine := by rw [List.size_toArray, ← rv.length]; exact hz
  have hSz : (s1.heap.push (revObj a ((its.toArray.size : Int) - 1))).objs.size = s1.heap.objs.size + 1 := size_push' _ _
  refine rev_list (s := { s1 with heap := s1.heap.push (revObj a ((its.toArray.size : Int) - 1)) }) (I1.ok.hd hc) ⟨_, Heap.get?_push_size _ rfl, rfl, rfl⟩ (hl.push _) hne hn fun h' tk acc c' hk hS hi => ?_
  have hsz : s1.heap.objs.size ≤ (s1.heap.push (revObj a ((its.toArray.size : Int) - 1))).objs.size := by rw [hSz]; omega
  have hn2 : H1 (s1.heap.push (revObj a ((its.toArray.size : Int) - 1))).objs.size = none := I1.hok.fresh hsz
  refine ⟨.ref _, upd H1 (s1.heap.push (revObj a ((its.toArray.size : Int) - 1))).objs.size (.lst xs.reverse), Inv.turnedNew (t' := tk) (ch := [s1.heap.objs.size]) I2 (fun b o hb e => hk b o (by simpa using hb) e) (fun b hb => by
    have : b = s1.heap.objs.size := by simpa using hb
    subst this; exact ⟨f0, f1, f2, f3, f4, f5⟩) (Nat.le_refl _) ⟨by rw [List.length_reverse]; exact hz, acc.toList, c', vals_rev rv hi, by rw [Array.toArray_toList]; exact hS⟩, rfl, q _ hn2⟩
/-! ### remove of data -/
def rRemD (K : PySem.W.Frag) : V → List V → Hp → VK → Prop := fun x vs H Q => ∃ (l : Addr) (xs : List V) (y : V) (ds : List PyData) (d : PyData) (j : Nat), x = .ref l ∧ vs = [y] ∧ H l = some (.lst xs) ∧ DpAll K H xs ds ∧ Dp K H y d ∧ PyData.plainAll ds = true ∧ d.plain = true ∧ d.depth ≤ 50 ∧ dataPlace ds d = some j ∧ Q .non (upd H l (.lst (xs.eraseIdx j)))
theorem mt_removeD (hu : X.A.units + 64 < cLine) : MtR X "list.remove" (rRemD X.K) := by
  intro pins s σ H x vs v us Q I rx rv h
  obtain ⟨l, xs, y, ds, d, j, rfl, rfl, hH, hx, hy, hp1, hp2, hd, hj, q⟩ := h
  cases rx
  obtain ⟨u, rfl, ru⟩ := rv.one
  obtain ⟨z, its, n, r, hl, e⟩ := I.lstM hH
  obtain ⟨as, ra⟩ := Dp.readsAll I ds _ _ hx r
  obtain ⟨bs, rb⟩ := Dp.reads I _ _ _ hy ru
  refine remove_list_data (vs := its.toArray) ⟨_, e, rfl, n, rfl⟩ (by simpa using ra) rb hp1 hp2 (by show X.A.units + 1 + _ < cLine; omega) hj (by rw [List.size_toArray, ← hl]; exact z) ?_
  refine ⟨.non, _, I.lset (t' := s.toks) (its' := its.eraseIdx j) hH e ?_ (r.eraseIdx j) ?_, rfl, q⟩
  · show its.toArray.eraseIdxIfInBounds j = (its.eraseIdx j).toArray
    rw [List.eraseIdxIfInBounds_toArray]
  · have := len_erase xs j
    omega
/-! ### min of data -/
def rMinD (K : PySem.W.Frag) : List V → Hp → VK → Prop := fun vs H Q => ∃ (p : Addr) (xs : List V) (d : PyData) (ds : List PyData), vs = [V.ref p] ∧ SqL K H p xs ∧ DpAll K H xs (d :: ds) ∧ PySem.W.AlikeAll (d :: ds) ∧ PyData.depthAll (d :: ds) ≤ 50 ∧ (∀ a b, a ∈ d :: ds → b ∈ d :: ds → alike a b = true) ∧
  ∀ (i : Nat) (y : V), xs[i]? = some y → (d :: ds)[i]? = some (minD d ds) → Q y H
theorem call_minD (hc : X.calm = true) (hu : X.A.units + 64 < cLine) : CallR X (.builtin "min") (rMinD X.K) := by
  intro pins s σ H vs us Q I r h
  obtain ⟨p, xs, d, ds, rfl, hs, hd, ha, hdp, hal, q⟩ := h
  obtain ⟨its, rv, hl, hz⟩ := I.list hs
  rw [Vals.ref1 r]
  obtain ⟨as, ra⟩ := Dp.readsAll I _ _ _ hd rv
  refine PySem.W.min_list_data (I.ok.hd hc) hl.isList (by simpa using ra) ha (by show X.A.units + 1 + _ < cLine; omega) fun i v h' tk bs hv hrd hk => ?_
  have hv : its[i]? = some v := by rw [← hv]; simp
  obtain ⟨y, hy, ry⟩ : ∃ y, xs[i]? = some y ∧ RelV y v := by
    have hi : i < xs.length := by rw [rv.length]; exact (List.getElem?_eq_some_iff.mp hv).1
    obtain ⟨u, e1, e2⟩ := rv.get (i := i) (x := xs[i]) (by simp [hi])
    rw [hv] at e1; cases e1
    exact ⟨_, by simp [hi], e2⟩
  obtain ⟨d', hd', cs, rd'⟩ : ∃ d', (d :: ds)[i]? = some d' ∧ ∃ cs, Reads s.heap v d' cs := by
    have : ∀ {vs : List Value} {ds : List PyData} {as : List Addr} {i : Nat} {v : Value}, ReadsAll s.heap vs ds as → vs[i]? = some v → ∃ d', ds[i]? = some d' ∧ ∃ cs, Reads s.heap v d' cs := by
      intro vs
      induction vs with
      | nil => intro ds as i v h e; simp at e
      | cons u vs ih =>
        intro ds as i v h e
        cases h with
        | cons h1 h2 =>
          cases i with
          | zero => simp at e; subst e; exact ⟨_, rfl, _, h1⟩
          | succ i => simp at e; obtain ⟨d', a, b⟩ := ih h2 e; exact ⟨d', by simpa using a, b⟩
    exact this ra hv
  have hmem : d' ∈ d :: ds := List.mem_of_getElem? hd'
  have hmin : minD d ds ∈ d :: ds := by
    have : ∀ (ds : List PyData) (d : PyData), minD d ds ∈ d :: ds := by
      intro ds
      induction ds with
      | nil => intro d; exact List.mem_cons_self
      | cons e ds ih =>
        intro d
        show minD (if dataLt e d then e else d) ds ∈ _
        have := ih (if dataLt e d then e else d)
        rcases List.mem_cons.mp this with h | h
        · rw [h]; split
          · exact List.mem_cons_of_mem _ List.mem_cons_self
          · exact List.mem_cons_self
        · exact List.mem_cons_of_mem _ (List.mem_cons_of_mem _ h)
    exact this ds d
  have rd2 : Reads h' v d' cs := PyProof.Rows.Reads.keeps hk rd'
  have e := alike_unique d' (minD d ds) v cs bs (hal _ _ hmem hmin) rd2 hrd
  subst e
  exact ⟨y, H, I.kept hk, ry, q i y hy hd'⟩
end
end FV

set_option Elab.async false
set_option linter.all false
set_option maxRecDepth 100000
set_option maxHeartbeats 1000000
set_option autoImplicit false
/-! orbits: walks in plain Lean -/
namespace FO
open FW FM FN FT FB
/-! ### going round -/
def it (f : Tie → Tie) : Nat → Tie → Tie
  | 0, s => s
  | k + 1, s => f (it f k s)
theorem it_add (f : Tie → Tie) (i j : Nat) (s : Tie) : it f (i + j) s = it f i (it f j s) := by
  induction i with
  | zero => rw [Nat.zero_add]; rfl
  | succ i ih => rw [Nat.succ_add]; show f (it f (i + j) s) = f (it f i (it f j s)); rw [ih]
/-- f goes about in D, one to one -/
structure Rnd (f : Tie → Tie) (D : List Tie) : Prop where
  nd : D.Nodup
  mem : ∀ s ∈ D, f s ∈ D
  inj : ∀ s ∈ D, ∀ t ∈ D, f s = f t → s = t
section
variable {f : Tie → Tie} {D : List Tie}
theorem Rnd.it_mem (h : Rnd f D) {s : Tie} (hs : s ∈ D) : ∀ k, it f k s ∈ D
  | 0 => hs
  | k + 1 => h.mem _ (h.it_mem hs k)
theorem Rnd.it_inj (h : Rnd f D) {s t : Tie} (hs : s ∈ D) (ht : t ∈ D) : ∀ k, it f k s = it f k t → s = t
  | 0, e => e
  | k + 1, e => h.it_inj hs ht k (h.inj _ (h.it_mem hs k) _ (h.it_mem ht k) e)
theorem Rnd.back (h : Rnd f D) {s : Tie} (hs : s ∈ D) {i j : Nat} (hij : i ≤ j) (e : it f i s = it f j s) : it f (j - i) s = s := by
  have e2 : it f j s = it f i (it f (j - i) s) := by rw [← it_add]; congr 1; omega
  rw [e2] at e
  exact (h.it_inj hs (h.it_mem hs _) i e).symm
theorem Rnd.ret (h : Rnd f D) {s : Tie} (hs : s ∈ D) : ∃ p, 0 < p ∧ p ≤ D.length ∧ it f p s = s := by
  refine Classical.byContradiction fun z => ?_
  have hn : ((List.range (D.length + 1)).map fun k => it f k s).Nodup := by
    refine List.Pairwise.map _ (R := fun a b => a < b ∧ b < D.length + 1) (fun a b hab e => ?_) ?_
    · have := h.back hs (Nat.le_of_lt hab.1) e
      exact z ⟨b - a, by omega, by omega, this⟩
    · refine (List.pairwise_lt_range (n := D.length + 1)).imp_of_mem fun {a b} _ hb hab => ⟨hab, List.mem_range.mp hb⟩
  have := List.Nodup.length_le_of_subset hn (l₂ := D) fun x hx => by
    obtain ⟨k, _, rfl⟩ := List.mem_map.mp hx
    exact h.it_mem hs k
  rw [List.length_map, List.length_range] at this
  omega
theorem least {P : Nat → Prop} (h : ∃ n, P n) : ∃ n, P n ∧ ∀ m, m < n → ¬ P m := by
  obtain ⟨n, hn⟩ := h
  induction n using Nat.strongRecOn with
  | _ n ih =>
    by_cases c : ∃ m, m < n ∧ P m
    · obtain ⟨m, h1, h2⟩ := c; exact ih m h1 h2
    · exact ⟨n, hn, fun m hm hp => c ⟨m, hm, hp⟩⟩
def IsPer (f : Tie → Tie) (s : Tie) (p : Nat) : Prop := 0 < p ∧ it f p s = s ∧ ∀ q, 0 < q → q < p → it f q s ≠ s
noncomputable def per (f : Tie → Tie) (s : Tie) : Nat := by classical exact if h : ∃ p, IsPer f s p then h.choose else 0
theorem IsPer.eq {s : Tie} {p q : Nat} (hp : IsPer f s p) (hq : IsPer f s q) : p = q := by
  rcases Nat.lt_trichotomy p q with c | c | c
  · exact absurd hp.2.1 (hq.2.2 p hp.1 c)
  · exact c
  · exact absurd hq.2.1 (hp.2.2 q hq.1 c)
theorem Rnd.per (h : Rnd f D) {s : Tie} (hs : s ∈ D) : IsPer f s (per f s) ∧ FO.per f s ≤ D.length := by
  obtain ⟨p0, a, b, c⟩ := h.ret hs
  obtain ⟨p, ⟨h1, h2⟩, h3⟩ := least (P := fun p => 0 < p ∧ it f p s = s) ⟨p0, a, c⟩
  have hp : IsPer f s p := ⟨h1, h2, fun q h0 hq e => h3 q hq ⟨h0, e⟩⟩
  have hle : p ≤ p0 := by
    rcases Nat.lt_or_ge p0 p with z | z
    · exact absurd ⟨a, c⟩ (h3 p0 z)
    · exact z
  have hex : ∃ p, IsPer f s p := ⟨p, hp⟩
  have he : FO.per f s = p := by
    unfold FO.per
    rw [dif_pos hex]
    exact hex.choose_spec.eq hp
  rw [he]
  exact ⟨hp, by omega⟩
/-- the way round from s -/
noncomputable def orb (f : Tie → Tie) (s : Tie) : List Tie := (List.range (per f s)).map fun k => it f k s
theorem Rnd.orb_nodup (h : Rnd f D) {s : Tie} (hs : s ∈ D) : (orb f s).Nodup := by
  obtain ⟨hp, _⟩ := h.per hs
  unfold orb
  refine List.Pairwise.map _ (R := fun a b => a < b ∧ b < FO.per f s) (fun a b hab e => ?_) ?_
  · exact hp.2.2 (b - a) (by omega) (by omega) (h.back hs (Nat.le_of_lt hab.1) e)
  · exact (List.pairwise_lt_range (n := FO.per f s)).imp_of_mem fun {a b} _ hb hab => ⟨hab, List.mem_range.mp hb⟩
theorem it_mod {s : Tie} {p : Nat} (hp : it f p s = s) (m : Nat) : ∀ k, it f (m + p * k) s = it f m s
  | 0 => rfl
  | k + 1 => by
    rw [show m + p * (k + 1) = (m + p * k) + p by rw [Nat.mul_succ]; omega, it_add, hp]
    exact it_mod hp m k
theorem Rnd.mem_orb (h : Rnd f D) {s : Tie} (hs : s ∈ D) {t : Tie} : t ∈ orb f s ↔ ∃ k, it f k s = t := by
  obtain ⟨hp, _⟩ := h.per hs
  unfold orb
  rw [List.mem_map]
  constructor
  · rintro ⟨k, _, e⟩; exact ⟨k, e⟩
  · rintro ⟨k, rfl⟩
    refine ⟨k % FO.per f s, List.mem_range.mpr (Nat.mod_lt _ hp.1), ?_⟩
    have := it_mod hp.2.1 (k % FO.per f s) (k / FO.per f s)
    rw [Nat.mod_add_div] at this
    exact this.symm
/-- on one way round -/
def Same (f : Tie → Tie) (s t : Tie) : Prop := ∃ k, it f k s = t
theorem Same.refl (s : Tie) : Same f s s := ⟨0, rfl⟩
theorem Same.trans {s t u : Tie} (h1 : Same f s t) (h2 : Same f t u) : Same f s u := by
  obtain ⟨i, rfl⟩ := h1
  obtain ⟨j, rfl⟩ := h2
  exact ⟨j + i, it_add f j i s⟩
theorem Rnd.symm (h : Rnd f D) {s t : Tie} (hs : s ∈ D) (h1 : Same f s t) : Same f t s := by
  obtain ⟨k, rfl⟩ := h1
  obtain ⟨hp, _⟩ := h.per hs
  refine ⟨FO.per f s * (k + 1) - k, ?_⟩
  rw [← it_add]
  have : FO.per f s * (k + 1) - k + k = 0 + FO.per f s * (k + 1) := by
    have : k ≤ FO.per f s * (k + 1) := Nat.le_trans (Nat.le_succ k) (Nat.le_mul_of_pos_left _ hp.1)
    omega
  rw [this]
  exact it_mod hp.2.1 0 (k + 1)
noncomputable def sR (f : Tie → Tie) (s t : Tie) : Bool := by classical exact decide (Same f s t)
theorem sR_iff {s t : Tie} : sR f s t = true ↔ Same f s t := by unfold sR; simp
theorem Rnd.orb_sub (h : Rnd f D) {s t : Tie} (hs : s ∈ D) (ht : t ∈ orb f s) : t ∈ D := by
  obtain ⟨k, rfl⟩ := (h.mem_orb hs).mp ht
  exact h.it_mem hs k
theorem Rnd.same_mem (h : Rnd f D) {s t : Tie} (hs : s ∈ D) (e : Same f s t) : t ∈ D := by
  obtain ⟨k, rfl⟩ := e; exact h.it_mem hs k
/-! ### the first ones, and their ways round -/
noncomputable def reps (f : Tie → Tie) (Q : List Tie) : List Tie := ((List.range Q.length).filter (isMin (sR f) Q)).map (at0 Q)
theorem reps_snoc (Q : List Tie) (s : Tie) : reps f (Q ++ [s]) = reps f Q ++ (if Q.all (fun u => !sR f u s) = true then [s] else []) := by
  unfold reps
  have hr : List.range (Q ++ [s]).length = List.range Q.length ++ [Q.length] := by rw [List.length_append]; exact List.range_succ
  have hf : (List.range Q.length).filter (isMin (sR f) (Q ++ [s])) = (List.range Q.length).filter (isMin (sR f) Q) := List.filter_congr fun k hk => isMin_snoc (List.mem_range.mp hk)
  have hm : isMin (sR f) (Q ++ [s]) Q.length = Q.all (fun u => !sR f u s) := by
    unfold isMin
    rw [at0_last, Bool.eq_iff_iff, List.all_eq_true, List.all_eq_true]
    constructor
    · intro g u hu
      obtain ⟨k, hk, rfl⟩ := mem_at0 hu
      have := g k (List.mem_range.mpr hk)
      rwa [at0_snoc hk] at this
    · intro g k hk
      have hk := List.mem_range.mp hk
      rw [at0_snoc hk]
      exact g _ (at0_mem hk)
  rw [hr, List.filter_append, List.map_append, hf]
  congr 1
  · refine List.map_congr_left fun k hk => ?_
    exact at0_snoc (List.mem_range.mp (List.mem_filter.mp hk).1)
  · rw [List.filter_cons, hm]
    by_cases c : Q.all (fun u => !sR f u s) = true
    · rw [if_pos c, if_pos c]; simp [at0_last]
    · rw [if_neg c, if_neg c]; rfl
theorem reps_mem {Q : List Tie} {s : Tie} (h : s ∈ reps f Q) : s ∈ Q := by
  unfold reps at h
  obtain ⟨k, hk, rfl⟩ := List.mem_map.mp h
  exact at0_mem (List.mem_range.mp (List.mem_filter.mp hk).1)
theorem Rnd.reps_cover (h : Rnd f D) {t : Tie} (ht : t ∈ D) : ∃ s ∈ reps f D, Same f s t := by
  obtain ⟨k, hk, rfl⟩ := mem_at0 ht
  -- the least index that goes with k
  obtain ⟨j, ⟨hj, hjk⟩, hmin⟩ := least (P := fun j => j < D.length ∧ Same f (at0 D j) (at0 D k)) ⟨k, hk, .refl _⟩
  refine ⟨at0 D j, ?_, hjk⟩
  unfold reps
  refine List.mem_map.mpr ⟨j, List.mem_filter.mpr ⟨List.mem_range.mpr hj, ?_⟩, rfl⟩
  unfold isMin
  rw [List.all_eq_true]
  intro i hi
  have hi := List.mem_range.mp hi
  cases q : sR f (at0 D i) (at0 D j) with
  | false => rfl
  | true => exact absurd ⟨by omega, (sR_iff.mp q).trans hjk⟩ (hmin i hi)
/-- the first ones are none alike -/
theorem Rnd.reps_pw (h : Rnd f D) : (reps f D).Pairwise fun a b => ¬ Same f a b ∧ ¬ Same f b a := by
  unfold reps
  rw [List.pairwise_map]
  have hp : ((List.range D.length).filter (isMin (sR f) D)).Pairwise (· < ·) := List.Pairwise.filter _ List.pairwise_lt_range
  refine hp.imp_of_mem fun {a b} ha hb hab => ?_
  obtain ⟨ha1, _⟩ := List.mem_filter.mp ha
  obtain ⟨hb1, hb2⟩ := List.mem_filter.mp hb
  have hn : ¬ Same f (at0 D a) (at0 D b) := fun e => by
    unfold isMin at hb2
    rw [List.all_eq_true] at hb2
    have := hb2 a (List.mem_range.mpr hab)
    rw [sR_iff.mpr e] at this; cases this
  exact ⟨hn, fun e => hn (h.symm (at0_mem (List.mem_range.mp hb1)) e)⟩
/-- all ways round, one behind the other -/
noncomputable def allSteps (f : Tie → Tie) (rs : List Tie) : List Tie := rs.flatMap (orb f)
theorem Rnd.all_nodup (h : Rnd f D) : ∀ {rs : List Tie}, (∀ r ∈ rs, r ∈ D) → rs.Pairwise (fun a b => ¬ Same f a b ∧ ¬ Same f b a) → (allSteps f rs).Nodup
  | [], _, _ => .nil
  | r :: rs, hm, hp => by
    cases hp with
    | cons h1 h2 =>
      show (orb f r ++ allSteps f rs).Nodup
      rw [List.nodup_append]
      refine ⟨h.orb_nodup (hm r List.mem_cons_self), h.all_nodup (fun x hx => hm x (List.mem_cons_of_mem _ hx)) h2, fun a ha b hb e => ?_⟩
      subst e
      obtain ⟨u, hu, hau⟩ := List.mem_flatMap.mp hb
      have e1 := (h.mem_orb (hm r List.mem_cons_self)).mp ha
      have e2 := (h.mem_orb (hm u (List.mem_cons_of_mem _ hu))).mp hau
      exact (h1 u hu).1 (Same.trans e1 (h.symm (hm u (List.mem_cons_of_mem _ hu)) e2))
theorem Rnd.all_mem (h : Rnd f D) {t : Tie} : t ∈ allSteps f (reps f D) ↔ t ∈ D := by
  unfold allSteps
  rw [List.mem_flatMap]
  constructor
  · rintro ⟨r, hr, ht⟩; exact h.orb_sub (reps_mem hr) ht
  · intro ht
    obtain ⟨s, hs, e⟩ := h.reps_cover ht
    exact ⟨s, hs, (h.mem_orb (reps_mem hs)).mpr e⟩
end
end FO

set_option Elab.async false
set_option linter.all false
set_option maxRecDepth 100000
set_option maxHeartbeats 1000000
set_option autoImplicit false
/-! turns and walks at work -/
namespace FR
open PySem L2 FD FW FX FQ FA FM FN FZ FB FT FO
open Evl (Ex)
def succT (t : List Nat) (a : Nat) : Nat := t.getD ((t.idxOf a + 1) % t.length) 0
def nxt (turns : List (List Nat)) (s : Tie) : Tie := (s.2, succT (turns.getD s.2 []) s.1)
def darts (n : Nat) (near : List (List Nat)) : List Tie := (List.range n).flatMap fun a => (near.getD a []).map fun b => (a, b)
theorem mem_darts {n : Nat} {near : List (List Nat)} {s : Tie} : s ∈ darts n near ↔ s.1 < n ∧ s.2 ∈ near.getD s.1 [] := by
  unfold darts
  rw [List.mem_flatMap]
  constructor
  · rintro ⟨a, ha, h⟩
    obtain ⟨b, hb, rfl⟩ := List.mem_map.mp h
    exact ⟨List.mem_range.mp ha, hb⟩
  · rintro ⟨h1, h2⟩
    exact ⟨s.1, List.mem_range.mpr h1, List.mem_map.mpr ⟨s.2, h2, rfl⟩⟩
theorem darts_succ (n : Nat) (near : List (List Nat)) : darts (n + 1) near = darts n near ++ (near.getD n []).map fun b => (n, b) := by
  unfold darts; rw [List.range_succ, List.flatMap_append]; simp
/-- they lie rising -/
theorem darts_pw (near : List (List Nat)) (hr : ∀ x, (near.getD x []).Pairwise (· < ·)) : ∀ n, ((darts n near).map intT).Pairwise fun a b => leP a b = true ∧ a ≠ b := by
  intro n
  rw [List.pairwise_map]
  induction n with
  | zero => exact .nil
  | succ n ih =>
    rw [darts_succ, List.pairwise_append]
    refine ⟨ih, ?_, fun a ha b hb => ?_⟩
    · rw [List.pairwise_map]
      refine (hr n).imp ?_
      intro a b h
      show leP ((n : Int), (a : Int)) ((n : Int), (b : Int)) = true ∧ ((n : Int), (a : Int)) ≠ ((n : Int), (b : Int))
      refine ⟨decide_eq_true (.inr ⟨rfl, by show (a : Int) ≤ (b : Int); omega⟩), fun e => ?_⟩
      have := (Prod.mk.inj e).2
      omega
    · obtain ⟨h1, _⟩ := mem_darts.mp ha
      obtain ⟨c, _, rfl⟩ := List.mem_map.mp hb
      unfold leP intT
      simp only [decide_eq_true_eq, Prod.mk.injEq, ne_eq]
      omega
theorem succT_mem {t : List Nat} {a : Nat} (h : a ∈ t) : succT t a ∈ t := by
  have hl : 0 < t.length := List.length_pos_of_mem h
  have hi : (t.idxOf a + 1) % t.length < t.length := Nat.mod_lt _ hl
  unfold succT
  rw [List.getD_eq_getElem?_getD, List.getElem?_eq_getElem hi]
  exact List.getElem_mem _
theorem succT_at {t : List Nat} {a : Nat} (h : a ∈ t) : t[(t.idxOf a + 1) % t.length]? = some (succT t a) := by
  have hl : 0 < t.length := List.length_pos_of_mem h
  have hi : (t.idxOf a + 1) % t.length < t.length := Nat.mod_lt _ hl
  unfold succT
  rw [List.getD_eq_getElem?_getD, List.getElem?_eq_getElem hi]; rfl
theorem succT_inj {t : List Nat} (nd : t.Nodup) {a b : Nat} (ha : a ∈ t) (hb : b ∈ t) (e : succT t a = succT t b) : a = b := by
  have h1 := succT_at ha
  have h2 := succT_at hb
  rw [e] at h1
  have hl : 0 < t.length := List.length_pos_of_mem ha
  have hi := (List.getElem?_inj (Nat.mod_lt _ hl) nd).mp (h1.trans h2.symm)
  have ia := List.idxOf_lt_length_of_mem ha
  have ib := List.idxOf_lt_length_of_mem hb
  have : t.idxOf a = t.idxOf b := by
    by_cases ca : t.idxOf a + 1 < t.length
    · by_cases cb : t.idxOf b + 1 < t.length
      · rw [Nat.mod_eq_of_lt ca, Nat.mod_eq_of_lt cb] at hi; omega
      · have eb : t.idxOf b + 1 = t.length := by omega
        rw [Nat.mod_eq_of_lt ca, eb, Nat.mod_self] at hi; omega
    · have ea : t.idxOf a + 1 = t.length := by omega
      by_cases cb : t.idxOf b + 1 < t.length
      · rw [Nat.mod_eq_of_lt cb, ea, Nat.mod_self] at hi; omega
      · omega
  have e1 : t[t.idxOf a]? = some a := by rw [List.getElem?_eq_getElem ia]; simp
  have e2 : t[t.idxOf b]? = some b := by rw [List.getElem?_eq_getElem ib]; simp
  rw [this, e2] at e1
  exact (Option.some.inj e1).symm
structure Tn (n : Nat) (ts : List Tie) (turns : List (List Nat)) : Prop where
  g : Good n ts
  len : turns.length = n
  perm : ∀ p, (turns.getD p []).Perm ((nearOf n ts).getD p [])
section
variable {n : Nat} {ts : List Tie} {turns : List (List Nat)}
theorem Tn.mem (h : Tn n ts turns) {p a : Nat} : a ∈ turns.getD p [] ↔ a ∈ (nearOf n ts).getD p [] := (h.perm p).mem_iff
theorem Tn.nd (h : Tn n ts turns) (p : Nat) : (turns.getD p []).Nodup := (h.perm p).nodup_iff.mpr ((nearOf_row n ts h.g p).imp fun h => Nat.ne_of_lt h)
theorem darts_nodup (g : Good n ts) : (darts n (nearOf n ts)).Nodup :=
  List.Pairwise.of_map intT (fun a b hab e => hab (by rw [e])) ((darts_pw (nearOf n ts) (nearOf_row n ts g) n).imp fun h => h.2)
theorem Tn.rnd (h : Tn n ts turns) : Rnd (nxt turns) (darts n (nearOf n ts)) where
  nd := darts_nodup h.g
  mem := fun s hs => by
    obtain ⟨h1, h2⟩ := mem_darts.mp hs
    have hb := (mem_near h.g h2).2.1
    have ha := h.mem.mpr (near_sym h.g _ _ h2)
    exact mem_darts.mpr ⟨hb, h.mem.mp (succT_mem ha)⟩
  inj := fun s hs t ht e => by
    obtain ⟨h1, h2⟩ := mem_darts.mp hs
    obtain ⟨h3, h4⟩ := mem_darts.mp ht
    have e1 : s.2 = t.2 := congrArg (·.1) e
    have e2 : succT (turns.getD s.2 []) s.1 = succT (turns.getD t.2 []) t.1 := congrArg (·.2) e
    have ha := h.mem.mpr (near_sym h.g _ _ h2)
    have hb := h.mem.mpr (near_sym h.g _ _ h4)
    rw [← e1] at e2 hb
    have := succT_inj (h.nd _) ha hb e2
    exact Prod.ext this e1
end
/-- walks() behind the darts Q -/
noncomputable def walkOf (turns : List (List Nat)) (s : Tie) : List Nat := (orb (nxt turns) s).map (·.1)
noncomputable def walksL (turns : List (List Nat)) (Q : List Tie) : List (List Nat) := (reps (nxt turns) Q).map (walkOf turns)
noncomputable def gonL (turns : List (List Nat)) (Q : List Tie) : List Tie := (reps (nxt turns) Q).flatMap (orb (nxt turns))
/-! ### promises -/
def R_is_turn : Hp → Hp → List Sd → Sd → Prop := fun _ _ ss s => ∃ ns row, ss = [.d (dNs ns), .d (dNs row)] ∧ sortN ns = row ∧ s = .d (.bool true)
def sp_is_turn (K : PySem.W.Frag) (C : Addr) : Sp := SpD R_is_turn
def R_are_turns (C : Addr) : Hp → Hp → List Sd → Sd → Prop := fun _ _ ss s => ∃ n ts turns, ss = [.p (WebM C n (nearOf n ts)), .d (dNear turns)] ∧ n ≤ 16 ∧ Tn n ts turns ∧ s = .d (.bool true)
def sp_are_turns (K : PySem.W.Frag) (C : Addr) : Sp := SpD (R_are_turns C)
def R_behind : Hp → Hp → List Sd → Sd → Prop := fun _ _ ss s => ∃ turns a b, ss = [.d (dNear turns), sN a, sN b] ∧ b < turns.length ∧ a ∈ turns.getD b [] ∧ s = sN (succT (turns.getD b []) a)
def sp_behind (K : PySem.W.Frag) (C : Addr) : Sp := SpD R_behind
def R_walks (C : Addr) : Hp → Hp → List Sd → Cd → Prop := fun F H ss c => ∃ n ts turns H0, ss = [.p (WebM C n (nearOf n ts)), .d (dNear turns)] ∧ n ≤ 16 ∧ ts.length ≤ 40 ∧ Tn n ts turns ∧ (∀ a, H a = none → H0 a = none) ∧ c = .lst ((walksL turns (darts n (nearOf n ts))).map fun r => .p (NewD H0 (r.map dN)))
def sp_walks (K : PySem.W.Frag) (C : Addr) : Sp := SpN (R_walks C)
def N_is_turn : List Str := ["turn", "near", "point"]
def t_is_turn (K : PySem.W.Frag) (C : Addr) : TS :=
  (tSeq (tIfS (tOr (tNot (tB (tCB (rIsi K) (tCons (tVar 0) (tCons (tC (.ty "list")) tNil))))) (tTest (tOp rNe (tCB (xLen K) (tCons (tVar 0) tNil)) (tCB (xLen K) (tCons (tVar 1) tNil))))) (tRet (tC (.bl false))) tNext)
  (tSeq (tFor (iList K (tVar 0)) (gName 2) (tIfS (tNot (tB (tCall (sp_is_whole K C) [] E0 (tCons (tVar 2) tNil)))) (tRet (tC (.bl false))) tNext))
  (tRet (tOp (rEqD K) (tCB (rSortedI K) (tCons (tVar 0) tNil)) (tVar 1)))))
def N_are_turns : List Str := ["web", "turns", "point"]
def t_are_turns (K : PySem.W.Frag) (C : Addr) : TS :=
  (tSeq (tIfS (tOr (tNot (tB (tCB (rIsi K) (tCons (tVar 1) (tCons (tC (.ty "list")) tNil))))) (tTest (tOp rNe (tCB (xLen K) (tCons (tVar 1) tNil)) (tFld K (tVar 0) "many")))) (tRet (tC (.bl false))) tNext)
  (tSeq (tFor (iRng1 (tCons (tFld K (tVar 0) "many") tNil)) (gName 2) (tIfS (tNot (tB (tCall (sp_is_turn K C) [] E0 (tCons (tOp (rIx K) (tVar 1) (tVar 2)) (tCons (tOp (rIx K) (tFld K (tVar 0) "near") (tVar 2)) tNil))))) (tRet (tC (.bl false))) tNext))
  (tRet (tC (.bl true)))))
def N_behind : List Str := ["turns", "one", "other", "turn"]
def t_behind (K : PySem.W.Frag) (C : Addr) : TS :=
  (tSeq (tAsg (tOp (rIx K) (tVar 0) (tVar 2)) (gName 3))
  (tRet (tOp (rIx K) (tVar 3) (tOp (rI (fun _ j => 0 < j) fun i j => .int (i % j)) (tOp (rI0 fun i j => .int (i + j)) (tBM K "list" (rIndex K) (tVar 3) (tCons (tVar 1) tNil)) (tC (.int 1))) (tCB (xLen K) (tCons (tVar 3) tNil))))))
def N_walks : List Str := ["web", "turns", "gone", "found", "one", "other", "walk", "step"]
def t_walks (K : PySem.W.Frag) (C : Addr) : TS :=
  (tSeq (tIfS (tNot (tB (tCall (sp_are_turns K C) [] E0 (tCons (tVar 0) (tCons (tVar 1) tNil))))) tNever tNext)
  (tSeq (tAsg tDNewT (gName 2))
  (tSeq (tAsg (tLst tNil) (gName 3))
  (tSeq (tFor (iRng1 (tCons (tFld K (tVar 0) "many") tNil)) (gName 4) (tFor (iList K (tOp (rIx K) (tFld K (tVar 0) "near") (tVar 4))) (gName 5) (tSeq (tAsg (tLst tNil) (gName 6))
  (tSeq (tAsg (tTup (tCons (tVar 4) (tCons (tVar 5) tNil))) (gName 7))
  (tSeq (tWhile (tB (tDNotIn (tVar 7) (tVar 2))) (tSeq (sDPut (tVar 2) (tVar 7) (tC (.bl true)))
  (tSeq (tDrop (tBM K "list" rAppend (tVar 6) (tCons (tOp (rIx K) (tVar 7) (tC (.int 0))) tNil)))
  (tAsg (tTup (tCons (tOp (rIx K) (tVar 7) (tC (.int 1))) (tCons (tCall (sp_behind K C) [] E0 (tCons (tVar 1) (tCons (tOp (rIx K) (tVar 7) (tC (.int 0))) (tCons (tOp (rIx K) (tVar 7) (tC (.int 1))) tNil)))) tNil))) (gName 7)))))
  (tIfS (tTest (tOp (rNeD K) (tVar 6) (tLst tNil))) (tDrop (tBM K "list" rAppend (tVar 3) (tCons (tVar 6) tNil))) tNext))))))
  (tRet (tVar 3))))))
section
variable {B : Base} {Δ : List Sd} {C : Cs} {ta tb te : TE} {tu tz : TS} {D : Ends} {K : PySem.W.Frag}
theorem idx_first {t : List Nat} {a : Nat} (h : a ∈ t) : t[t.idxOf a]? = some a ∧ ∀ m z, m < t.idxOf a → t[m]? = some z → z ≠ a := by
  have ia := List.idxOf_lt_length_of_mem h
  refine ⟨by rw [List.getElem?_eq_getElem ia]; simp, fun m z hm hz e => ?_⟩
  subst e
  obtain ⟨hl, e2⟩ := List.getElem?_eq_some_iff.mp hz
  have := List.not_of_lt_findIdx (p := fun x => x == z) (xs := t) (i := m) hm
  rw [e2] at this
  simp at this
/-- xs.index(x) -/
theorem ev_index {t : List Nat} {a : Nat} (h : Ev B Δ C ta (.d (dNs t))) (he : Ev B Δ C te (sN a)) (ha : a ∈ t) : Ev B Δ C (tBM K "list" (rIndex K) ta (tCons te tNil)) (sN (t.idxOf a)) := fun σ H F hs Q q =>
  h σ H F hs _ fun v F1 H1 h1 e1 e1' w1 => by
    obtain ⟨p, xs, rfl, e, r⟩ := Rep.lst_inv w1
    refine ⟨.inl ⟨rfl, xs, SqL.of (h1.fh _ _ e)⟩, he σ H1 F1 h1 _ fun y F2 H2 h2 e2 e2' w2 => ?_⟩
    cases w2
    have ex : xs = t.map fun k : Nat => V.int (k : Int) := by
      have e3 : t.map dN = (t.map fun k : Nat => (k : Int)).map PyData.int := by rw [List.map_map]; rfl
      rw [e3] at r
      have := r.ints
      rw [this, List.map_map]; rfl
    subst ex
    obtain ⟨i1, i2⟩ := idx_first ha
    refine ⟨p, _, .int (a : Int), t.idxOf a, .int (a : Int), rfl, rfl, SqL.of (h2.fh _ _ (e2 _ _ e)), rfl, ?_, by rw [List.getElem?_map, i1]; rfl, by simp [eqV], fun m z hm hz => ?_, (q.later (e1.trans e2) (e1'.trans e2')).now h2 (.int _)⟩
    · rw [List.all_map]; exact List.all_eq_true.mpr fun _ _ => rfl
    · rw [List.getElem?_map] at hz
      cases hz' : t[m]? with
      | none => rw [hz'] at hz; cases hz
      | some b =>
        rw [hz'] at hz
        have hz : V.int (b : Int) = z := Option.some.inj hz
        subst hz
        have := i2 m b hm hz'
        simp [eqV]
        omega
theorem Sl.reset {F : Hp} {o : Option V} {s : Sd} {σ : L2.St} {i : Nat} (h : Sl F σ Δ) (ho : σ[i]? = some o) (r : SlO F o s) : Sl F σ (Δ.set i s) := by
  have := Sl.set r i h
  have e : σ.set i o = σ := by
    apply List.ext_getElem?
    intro j
    rw [List.getElem?_set]
    by_cases c : i = j
    · subst c; rw [if_pos rfl, if_pos (List.getElem?_eq_some_iff.mp ho).1, ho]
    · rw [if_neg c]
  rwa [e] at this
theorem nx_drop' {x : Addr × Cd} {P : L2.St → Hp → Prop} (hx : B.H x.1 = none) (h : Nx B Δ C P) : Nx B Δ (x :: C) P := fun σ H ⟨F, hs⟩ => h σ H ⟨F, hs.dropC hx⟩
/-- a cell of ours that a slot holds is let go -/
theorem wp_frzI {i : Nat} {l : Addr} {H0 : Hp} {ds : List PyData} (hi : Δ[i]? = some (.v (.ref l))) (hB : B.H l = none) (h0 : ∀ a, B.H a = none → H0 a = none) (h : WP B (Δ.set i (.p (NewD H0 ds))) C tu D) : WP B Δ ((l, .lst (ds.map Sd.d)) :: C) tu D := fun σ H ⟨F, hs⟩ => by
  obtain ⟨F', e, h1, r⟩ := hs.frzD (k := 0) rfl hB
  obtain ⟨o, ho, w⟩ := h1.sl.get hi
  obtain ⟨v, rfl, w⟩ := w.some rfl
  cases w
  exact h σ H ⟨F', h1.slots (Sl.reset h1.sl ho (show SlO F' (some (V.ref l)) (.p (NewD H0 ds)) from ⟨r, l, rfl, h0 _ hB⟩))⟩
end
section
variable {K : PySem.W.Frag} {C : Addr} {vs : List V} {H : Hp} {Q : VK} {E : XK}
theorem pure_is_turn (h : sp_is_turn K C vs H Q E) : t_is_turn K C { nx := fun _ H' => Q .non H', rt := Q } (L2.start N_is_turn vs) H := by
  refine enterD h fun F ss s hf ha hR hq => ?_
  obtain ⟨ns, row, rfl, rfl, rfl⟩ := hR
  refine ⟨_, ha, ?_⟩
  show WP ⟨F, H, []⟩ [.d (dNs ns), .d (dNs (sortN ns)), .no] [] (t_is_turn K C) _
  have hl := (sortN_perm ns).length_eq
  refine q_no (et_orF (et_nF (et_B (ev_cb (ea_cons (ev_var rfl rfl) (ea_cons ev_cv ea_nil)) (rc_isi kit_ll))) rfl) rfl (et_test (ev_op (ev_cb (ea_cons (ev_var rfl rfl) ea_nil) rc_lenL) (ev_cb (ea_cons (ev_var rfl rfl) ea_nil) rc_lenL) rv_neI))) (by simp [hl]) ?_
  refine q_for1 (α := Unit) dN (Src.list (ev_var rfl rfl)) (fun _ _ => True) (fun _ _ => [.d (dNs ns), .d (dNs (sortN ns)), .any]) (fun _ _ => []) (fun G => nx_inv () trivial) ?_ ?_
  · intro G i _ p hp _
    exact s_no (et_nF (et_B (ev_call (s := .d (.bool true)) (ea_cons (ev_var rfl rfl) ea_nil) fun _ _ _ _ => ⟨_, rfl, rfl⟩)) rfl) rfl (nx_inv () trivial)
  · intro _ _
    refine s_ret (s := .d (.bool true)) (ev_eq (ev_op (ev_of' ((sortN ns).map dN) (evN_cb (ea_cons (ev_eq (ev_var rfl rfl) (show Sd.d (dNs ns) = .d (.list ((ns.map fun k : Nat => (k : Int)).map .int)) by rw [List.map_map]; rfl)) ea_nil) rcN_sorted) (by rw [sortI_nat]; simp only [List.map_map]; rfl)) (ev_var rfl rfl) (rv_eqG (f := dNs) (a := sortN ns) (b := sortN ns) faith_ns (sh_ns _) (sh_ns _))) (by simp)) hq
theorem row_at {n : Nat} {near : List (List Nat)} (hl : near.length = n) {p : Nat} (hp : p < n) : near[p]? = some (near.getD p []) := by
  rw [List.getD_eq_getElem?_getD, List.getElem?_eq_getElem (by omega)]; rfl
theorem sortN_of {as bs : List Nat} (h : as.Perm bs) (hs : bs.Pairwise (· < ·)) : sortN as = bs := by
  have h1 : (sortN as).Pairwise (· ≤ ·) := sortN_pw as
  exact ((sortN_perm as).trans h).eq_of_pairwise (fun a b _ _ x y => Nat.le_antisymm x y) h1 (hs.imp Nat.le_of_lt)
theorem pure_are_turns (w : WebC K C) (h : sp_are_turns K C vs H Q E) : t_are_turns K C { nx := fun _ H' => Q .non H', rt := Q } (L2.start N_are_turns vs) H := by
  refine enterD h fun F ss s hf ha hR hq => ?_
  obtain ⟨n, ts, turns, rfl, h16, ht, rfl⟩ := hR
  refine ⟨_, ha, ?_⟩
  have hlen := nearOf_len n ts
  have hrow := nearOf_row n ts ht.g
  have hperm := ht.perm
  generalize nearOf n ts = near at *
  show WP ⟨F, H, []⟩ [.p (WebM C n near), .d (dNear turns), .no] [] (t_are_turns K C) _
  refine q_no (et_orF (et_nF (et_B (ev_cb (ea_cons (ev_var rfl rfl) (ea_cons ev_cv ea_nil)) (rc_isi kit_ll))) rfl) rfl (et_test (ev_op (ev_cb (ea_cons (ev_var rfl rfl) ea_nil) rc_lenL) (ev_many w (ev_var rfl rfl)) rv_neI))) (by simp [ht.len]) ?_
  refine q_for1 (α := Unit) dN (Src.rN (ea_cons (ev_many w (ev_var rfl rfl)) ea_nil)) (fun _ _ => True) (fun _ _ => [.p (WebM C n near), .d (dNear turns), .any]) (fun _ _ => []) (fun G => nx_inv () trivial) ?_ ?_
  · intro G i _ p hp _
    have hpn : p < n := by rw [← List.mem_range]; exact List.mem_of_getElem? hp
    exact s_no (et_nF (et_B (ev_call (s := .d (.bool true)) (ea_cons (ev_op (ev_var rfl rfl) (ev_var rfl rfl) (rv_xL (atI_mapN dNs (row_at ht.len hpn)))) (ea_cons (ev_op (ev_near w (ev_var rfl rfl)) (ev_var rfl rfl) (rv_xL (atI_mapN dNs (row_at hlen hpn)))) ea_nil)) fun _ _ _ _ => ⟨_, _, rfl, sortN_of (hperm p) (hrow p), rfl⟩)) rfl) rfl (nx_inv () trivial)
  · intro _ _
    exact s_ret ev_bl hq
theorem pure_behind (h : sp_behind K C vs H Q E) : t_behind K C { nx := fun _ H' => Q .non H', rt := Q } (L2.start N_behind vs) H := by
  refine enterD h fun F ss s hf ha hR hq => ?_
  obtain ⟨turns, a, b, rfl, hb, hab, rfl⟩ := hR
  refine ⟨_, ha, ?_⟩
  show WP ⟨F, H, []⟩ [.d (dNear turns), sN a, sN b, .no] [] (t_behind K C) _
  refine q_asg (s := .d (dNs (turns.getD b []))) (ev_op (ev_var rfl rfl) (ev_var rfl rfl) (rv_xL (atI_mapN dNs (row_at rfl hb)))) ?_
  have hl : 0 < (turns.getD b []).length := List.length_pos_of_mem hab
  refine s_ret (s := sN (succT (turns.getD b []) a)) (ev_op (ev_var rfl rfl) (ev_eq (ev_op (ev_op (ev_index (ev_var rfl rfl) (ev_var rfl rfl) hab) ev_int rv_ii) (ev_cb (ea_cons (ev_var rfl rfl) ea_nil) rc_lenL) (rv_iC (P := fun _ j => 0 < j) (by rw [List.length_map]; omega))) (show _ = sN (((turns.getD b []).idxOf a + 1) % (turns.getD b []).length) by
    show Sd.d (.int _) = Sd.d (.int _)
    congr 2
    rw [List.length_map]
    exact (Int.natCast_emod _ _).symm)) (rv_xL (atI_mapN dN (succT_at hab)))) hq
def gonD (G : List Tie) : List (List Key × Sd) := dictT G fun _ => .d (.bool true)
theorem gon_some {G : List Tie} {t : Tie} : (lookA (gonD G) (kT t)).isSome = decide (t ∈ G) := by
  by_cases c : t ∈ G
  · unfold gonD; rw [lookT c]; simp [c]
  · unfold gonD; rw [lookT_none c]; simp [c]
/-- what is gone behind the darts Q -/
structure Gon (f : Tie → Tie) (Q G : List Tie) : Prop where
  iff : ∀ t, t ∈ G ↔ ∃ u ∈ Q, Same f u t
  nd : G.Nodup
theorem darts_len {n : Nat} {ts : List Tie} (g : Good n ts) (hn : n ≤ 16) : (darts n (nearOf n ts)).length ≤ 256 := by
  have h : ∀ m, (darts m (nearOf n ts)).length ≤ 16 * m := by
    intro m
    induction m with
    | zero => exact Nat.le_refl _
    | succ m ih => rw [darts_succ, List.length_append, List.length_map]; have := row_len g hn m; omega
  have := h n
  omega
theorem pure_walks (w : WebC K C) (h : sp_walks K C vs H Q E) : t_walks K C { nx := fun _ H' => Q .non H', rt := Q } (L2.start N_walks vs) H := by
  refine enterN h fun F ss c hf ha hR hq => ?_
  obtain ⟨n, ts, turns, H0, rfl, h16, h40, ht, hH0, rfl⟩ := hR
  refine ⟨_, ha, ?_⟩
  have hlen := nearOf_len n ts
  have hno := nearOf_ok ht.g h16
  have rnd := ht.rnd
  have hDl := darts_len ht.g h16
  have hmem : ∀ {s : Tie}, s ∈ darts n (nearOf n ts) → s.2 < turns.length ∧ s.1 ∈ turns.getD s.2 [] := fun {s} hs => by
    obtain ⟨h1, h2⟩ := mem_darts.mp hs
    exact ⟨by rw [ht.len]; exact (mem_near ht.g h2).2.1, ht.mem.mpr (near_sym ht.g _ _ h2)⟩
  have htok := ht
  generalize eN : nearOf n ts = near at hlen hno rnd hDl hmem hq
  show WP ⟨F, H, []⟩ [.p (WebM C n near), .d (dNear turns), .no, .no, .no, .no, .no, .no] [] (t_walks K C) _
  refine s_nevT (et_nF (et_B (ev_call (s := .d (.bool true)) (ea_cons (ev_var rfl rfl) (ea_cons (ev_var rfl rfl) ea_nil)) fun _ _ _ _ => ⟨n, ts, turns, by rw [eN], h16, htok, rfl⟩)) rfl) rfl ?_
  refine q_new evN_dnewT fun gd hgd => ?_
  have hgd : H gd = none := hgd
  refine q_new evN_lst0 fun fd hfd => ?_
  have hfd : H fd = none := hfd
  have hGl : ∀ {Q G : List Tie}, (∀ u ∈ Q, u ∈ darts n near) → Gon (nxt turns) Q G → G.length ≤ 256 := fun {Q G} hQ hg => by
    refine Nat.le_trans (List.Nodup.length_le_of_subset hg.nd (l₂ := darts n near) fun t htG => ?_) hDl
    obtain ⟨u, hu, e⟩ := (hg.iff t).mp htG
    exact rnd.same_mem (hQ u hu) e
  have hreps : ∀ {Q : List Tie}, (∀ u ∈ Q, u ∈ darts n near) → Q.Nodup → (reps (nxt turns) Q).length ≤ 256 := fun {Q} hQ hn => by
    unfold reps
    rw [List.length_map]
    have h1 := List.length_filter_le (isMin (sR (nxt turns)) Q) (List.range Q.length)
    rw [List.length_range] at h1
    have h2 := List.Nodup.length_le_of_subset hn (l₂ := darts n near) hQ
    omega
  have hpre : ∀ i, i ≤ n → ∀ u ∈ darts i near, u ∈ darts n near := fun i hi u hu => by
    obtain ⟨h1, h2⟩ := mem_darts.mp hu
    exact mem_darts.mpr ⟨by omega, h2⟩
  refine q_for1 (α := List Tie) dN (Src.rN (ea_cons (ev_many w (ev_var rfl rfl)) ea_nil)) (fun i G => Gon (nxt turns) (darts i near) G) (fun _ _ => [.p (WebM C n near), .d (dNear turns), .v (.ref gd), .v (.ref fd), .any, .any, .any, .any])
    (fun i G => [(fd, .lst ((walksL turns (darts i near)).map fun r => .p (NewD H0 (r.map dN)))), (gd, .dt (gonD G))]) (fun G0 => nx_inv [] ⟨fun t => ⟨fun z => (by cases z), fun ⟨u, hu, _⟩ => (by cases hu)⟩, .nil⟩) ?_ ?_
  · intro G0 i G p hp hg
    have hpi : p = i ∧ p < n := by
      have h1 : p < n := by rw [← List.mem_range]; exact List.mem_of_getElem? hp
      have h2 := (List.getElem?_eq_some_iff.mp hp).1
      rw [List.length_range] at h2
      rw [List.getElem?_range h2] at hp
      exact ⟨(Option.some.inj hp).symm, h1⟩
    obtain ⟨rfl, hpn⟩ := hpi
    refine s_for1 (α := List Tie) dN (Src.list (ev_op (ev_near w (ev_var rfl rfl)) (ev_var rfl rfl) (rv_xL (atI_mapN dNs (row_at hlen hpn))))) (fun j G => Gon (nxt turns) (darts p near ++ ((near.getD p []).take j).map fun b => (p, b)) G) (fun _ _ => [.p (WebM C n near), .d (dNear turns), .v (.ref gd), .v (.ref fd), sN p, .any, .any, .any])
      (fun j G => [(fd, .lst ((walksL turns (darts p near ++ ((near.getD p []).take j).map fun b => (p, b))).map fun r => .p (NewD H0 (r.map dN)))), (gd, .dt (gonD G))]) (fun G0 => nx_inv G (by simpa using hg) (hC := by simp)) ?_ ?_
    · intro G1 j G b hb hg
      have hbm : b ∈ near.getD p [] := List.mem_of_getElem? hb
      have hsD : (p, b) ∈ darts n near := mem_darts.mpr ⟨hpn, hbm⟩
      have hQ : ∀ u ∈ darts p near ++ ((near.getD p []).take j).map (fun b => (p, b)), u ∈ darts n near := fun u hu => by
        rcases List.mem_append.mp hu with hu | hu
        · exact hpre p (by omega) u hu
        · obtain ⟨c, hc, rfl⟩ := List.mem_map.mp hu
          exact mem_darts.mpr ⟨hpn, List.mem_of_mem_take hc⟩
      have hQn : (darts p near ++ ((near.getD p []).take j).map fun b => (p, b)).Nodup := by
        have hnd := rnd.nd
        have hs : (darts p near ++ (near.getD p []).map fun b => (p, b)).Nodup := by
          rw [← darts_succ]
          have : ∀ k, p + 1 + k ≤ n → (darts (p + 1 + k) near).Nodup → (darts (p + 1) near).Nodup := by
            intro k
            induction k with
            | zero => intro _ h; exact h
            | succ k ih =>
              intro hk h
              have e : darts (p + 1 + (k + 1)) near = darts (p + 1 + k) near ++ (near.getD (p + 1 + k) []).map fun b => (p + 1 + k, b) := darts_succ _ _
              rw [e] at h
              exact ih (by omega) (List.nodup_append.mp h).1
          have e : p + 1 + (n - (p + 1)) = n := by omega
          exact this (n - (p + 1)) (by omega) (by rw [e]; exact hnd)
        exact hs.sublist (List.Sublist.append (List.Sublist.refl _) ((List.take_sublist _ _).map _))
      have hnextQ : darts p near ++ ((near.getD p []).take (j + 1)).map (fun b => (p, b)) = (darts p near ++ ((near.getD p []).take j).map fun b => (p, b)) ++ [(p, b)] := by
        rw [take_succ hb, List.map_append, List.append_assoc]; rfl
      rw [hnextQ]
      generalize darts p near ++ ((near.getD p []).take j).map (fun b => (p, b)) = Qd at hg hQ hQn ⊢
      have hG256 := hGl hQ hg
      have hR256 := hreps hQ hQn
      generalize hs0 : ((p, b) : Tie) = s at hsD ⊢
      obtain ⟨hper, hperl⟩ := rnd.per hsD
      have hcl : ∀ k, it (nxt turns) k s ∈ G → s ∈ G := fun k hk => by
        obtain ⟨u, hu, e⟩ := (hg.iff _).mp hk
        exact (hg.iff _).mpr ⟨u, hu, e.trans (rnd.symm hsD ⟨k, rfl⟩)⟩
      have hnd := rnd.orb_nodup hsD
      refine q_new evN_lst0 fun wl hwl => ?_
      have hwl : H wl = none := hwl
      refine q_asg (s := .d (dTie s)) (ev_eq (ev_tup2 (ev_var rfl rfl) (ev_var rfl rfl)) (by rw [← hs0])) ?_
      refine q_while (α := Nat) (fun k => (s ∈ G → k = 0) ∧ (s ∉ G → k ≤ per (nxt turns) s)) (fun k => per (nxt turns) s - k) (fun k => [.p (WebM C n near), .d (dNear turns), .v (.ref gd), .v (.ref fd), sN p, .any, .v (.ref wl), .d (dTie (it (nxt turns) k s))])
        (fun k => [(wl, .lst (((List.range k).map fun j => it (nxt turns) j s).map fun t => sN t.1)), (fd, .lst ((walksL turns Qd).map fun r => .p (NewD H0 (r.map dN)))), (gd, .dt (gonD (G ++ (List.range k).map fun j => it (nxt turns) j s)))]) (fun k => !decide (it (nxt turns) k s ∈ G ++ (List.range k).map fun j => it (nxt turns) j s)) ?_ ?_ ?_ ?_
      · exact nx_inv 0 ⟨fun _ => rfl, fun _ => Nat.zero_le _⟩ (hC := by simp)
      · intro k _
        exact evT_eq (et_B (ev_dniT (k := 2) (x := kT (it (nxt turns) k s)) rfl (ev_var rfl rfl) (ev_var rfl rfl))) (by rw [gon_some])
      · intro k ⟨i1, i2⟩ htst
        have htst : it (nxt turns) k s ∉ G ++ (List.range k).map fun j => it (nxt turns) j s := by simpa using htst
        have hsG : s ∉ G := fun z => by
          have := i1 z
          subst this
          exact htst (List.mem_append_left _ z)
        have hkp : k < per (nxt turns) s := by
          have := i2 hsG
          rcases Nat.lt_or_ge k (per (nxt turns) s) with c | c
          · exact c
          · have e : k = per (nxt turns) s := by omega
            refine absurd (List.mem_append_right _ (List.mem_map.mpr ⟨0, List.mem_range.mpr (show 0 < k by have := hper.1; omega), ?_⟩)) htst
            rw [e, hper.2.1]; rfl
        have hkD := rnd.it_mem hsD k
        obtain ⟨m1, m2⟩ := hmem hkD
        have hr : (List.range (k + 1)).map (fun j => it (nxt turns) j s) = (List.range k).map (fun j => it (nxt turns) j s) ++ [it (nxt turns) k s] := by rw [List.range_succ, List.map_append]; rfl
        refine q_dputT (k := 2) (x := kT (it (nxt turns) k s)) (s := .d (.bool true)) rfl ev_bl (ev_var rfl rfl) (ev_var rfl rfl) ?_ (by unfold gonD dictT; rw [List.length_map, List.length_append, List.length_map, List.length_range]; omega)
        refine q_app (k := 0) (s := sN (it (nxt turns) k s).1) rfl (ev_var rfl rfl) (ev_op (ev_var rfl rfl) ev_int (rv_xT (atI_nat (j := 0) rfl))) ?_ (by rw [List.length_map, List.length_map, List.length_range]; omega)
        refine s_asg (s := .d (dTie (it (nxt turns) (k + 1) s))) (ev_tup2 (a := dN (it (nxt turns) k s).2) (b := dN (succT (turns.getD (it (nxt turns) k s).2 []) (it (nxt turns) k s).1)) (ev_op (ev_var rfl rfl) ev_int (rv_xT (atI_nat (j := 1) rfl))) (ev_call (ea_cons (ev_var rfl rfl) (ea_cons (ev_op (ev_var rfl rfl) ev_int (rv_xT (atI_nat (j := 0) rfl))) (ea_cons (ev_op (ev_var rfl rfl) ev_int (rv_xT (atI_nat (j := 1) rfl))) ea_nil))) fun _ _ _ _ => ⟨turns, _, _, rfl, m1, m2, rfl⟩)) (nx_inv (k + 1) ⟨⟨fun z => absurd z hsG, fun _ => hkp⟩, by show per (nxt turns) s - (k + 1) < per (nxt turns) s - k; omega⟩ (hC := ?_))
        show [(wl, Cd.lst _), (fd, _), (gd, Cd.dt _)] = [(wl, Cd.lst _), (fd, _), (gd, Cd.dt _)]
        rw [hr, List.map_append, ← List.append_assoc]
        unfold gonD
        rw [← putT_new htst]
        rfl
      · intro k ⟨i1, i2⟩ htst
        have htst : it (nxt turns) k s ∈ G ++ (List.range k).map fun j => it (nxt turns) j s := Classical.byContradiction fun z => by
          rw [decide_eq_false z] at htst
          cases htst
        by_cases hsG : s ∈ G
        · have := i1 hsG
          subst this
          obtain ⟨u, hu, e⟩ := (hg.iff _).mp hsG
          have hall : Qd.all (fun u => !sR (nxt turns) u s) = false := by
            cases q : Qd.all (fun u => !sR (nxt turns) u s) with
            | false => rfl
            | true =>
              have := List.all_eq_true.mp q u hu
              rw [sR_iff.mpr e] at this; cases this
          have hw : walksL turns (Qd ++ [s]) = walksL turns Qd := by
            unfold walksL; rw [reps_snoc, if_neg (by rw [hall]; decide), List.append_nil]
          refine s_no (et_test (ev_op (ev_var rfl rfl) ev_lst0 (rv_neWG (f := dNs) (a := []) (b := []) faith_ns (now_c 0 (ds := []) rfl) now_d (sh_ns _) (sh_ns _)))) (by simp) ?_
          refine nx_drop' hwl (nx_inv G ⟨fun t => ?_, hg.nd⟩ (hC := by rw [hw]; simp))
          rw [hg.iff]
          constructor
          · rintro ⟨v, hv, e'⟩; exact ⟨v, List.mem_append_left _ hv, e'⟩
          · rintro ⟨v, hv, e'⟩
            rcases List.mem_append.mp hv with hv | hv
            · exact ⟨v, hv, e'⟩
            · have : v = s := by simpa using hv
              subst this; exact ⟨u, hu, e.trans e'⟩
        · have hk := i2 hsG
          have hkp : k = per (nxt turns) s := by
            rcases Nat.lt_or_ge k (per (nxt turns) s) with c | c
            · exfalso
              rcases List.mem_append.mp htst with z | z
              · exact hsG (hcl k z)
              · obtain ⟨j, hj, e⟩ := List.mem_map.mp z
                have hj := List.mem_range.mp hj
                exact hper.2.2 (k - j) (by omega) (by omega) (rnd.back hsD (Nat.le_of_lt hj) e)
            · omega
          subst hkp
          have horb : (List.range (per (nxt turns) s)).map (fun j => it (nxt turns) j s) = orb (nxt turns) s := rfl
          rw [horb]
          have hall : Qd.all (fun u => !sR (nxt turns) u s) = true := by
            rw [List.all_eq_true]
            intro u hu
            cases q : sR (nxt turns) u s with
            | false => rfl
            | true => exact absurd ((hg.iff _).mpr ⟨u, hu, sR_iff.mp q⟩) hsG
          have hw : walksL turns (Qd ++ [s]) = walksL turns Qd ++ [walkOf turns s] := by
            unfold walksL; rw [reps_snoc, if_pos hall, List.map_append]; rfl
          have hcw : ((orb (nxt turns) s).map fun t => sN t.1) = ((walkOf turns s).map dN).map Sd.d := by unfold walkOf; rw [List.map_map, List.map_map]; rfl
          rw [hcw]
          have hne : walkOf turns s ≠ [] := by
            unfold walkOf orb
            intro z
            have := congrArg List.length z
            rw [List.length_map, List.length_map, List.length_range] at this
            have := hper.1
            simp at *; omega
          refine s_when (b := true) (evT_eq (et_test (ev_op (ev_var rfl rfl) ev_lst0 (rv_neWG (f := dNs) (a := walkOf turns s) (b := []) faith_ns (now_c 0 rfl) now_d (sh_ns _) (sh_ns _)))) (by simp [hne])) (fun _ => ?_) (fun z => by cases z)
          refine wp_frzI (i := 6) (H0 := H0) rfl hwl (fun a h => hH0 a h) ?_
          refine s_app (k := 0) (s := .p (NewD H0 ((walkOf turns s).map dN))) rfl (ev_var rfl rfl) (ev_var rfl rfl) (nx_inv (G ++ orb (nxt turns) s) ⟨fun t => ?_, ?_⟩ (hC := by rw [hw, List.map_append]; rfl)) (by unfold walksL; rw [List.length_map, List.length_map]; omega)
          · rw [List.mem_append, hg.iff, rnd.mem_orb hsD]
            constructor
            · rintro (⟨v, hv, e'⟩ | ⟨k, e'⟩)
              · exact ⟨v, List.mem_append_left _ hv, e'⟩
              · exact ⟨s, List.mem_append_right _ (by simp), k, e'⟩
            · rintro ⟨v, hv, e'⟩
              rcases List.mem_append.mp hv with hv | hv
              · exact .inl ⟨v, hv, e'⟩
              · have : v = s := by simpa using hv
                subst this; exact .inr e'
          · rw [List.nodup_append]
            refine ⟨hg.nd, hnd, fun a ha b hb e => ?_⟩
            subst e
            obtain ⟨k, rfl⟩ := (rnd.mem_orb hsD).mp hb
            exact hsG (hcl k ha)
    · intro G hg
      rw [List.take_length] at hg ⊢
      rw [← darts_succ] at hg ⊢
      exact nx_inv G hg
  · intro G _
    rw [List.length_range]
    exact s_retN (k := 0) rfl (ev_var rfl rfl) hq (by simp; exact ⟨hfd, hgd⟩)
end
end FR

set_option Elab.async false
set_option linter.all false
set_option maxRecDepth 100000
set_option maxHeartbeats 1000000
set_option autoImplicit false
/-! the laws' points, ties and turns -/
namespace FS
open PySem L2 FD FW FX FQ FA FM FN FZ FB FT FO FR
open Evl (Ex)
def manyB (ns : List Int) : Nat := (if cellZ ns 0 % 6 = 5 then 9 + cellZ ns 0 / 6 % 8 else 1 + cellZ ns 0 / 6 % 8).toNat
theorem manyB_rng (ns : List Int) : 1 ≤ manyB ns ∧ manyB ns ≤ 16 := by
  unfold manyB
  split <;> omega
def mostC (ns : List Int) : Int := cellZ ns 1 % 17 + 23 * (if cellZ ns 1 / 17 % 8 = 7 then 1 else 0)
def tiesC (ns : List Int) (n : Nat) : List Tie := tiesL n [] (cutD ns (some 4) (some (4 + mostC ns)))
theorem tiesC_good (ns : List Int) {n : Nat} (hn : 1 ≤ n) : Good n (tiesC ns n) ∧ (tiesC ns n).length ≤ 40 := by
  obtain ⟨h1, h2⟩ := tiesL_good (n := n) hn (cutD ns (some 4) (some (4 + mostC ns))) [] (Good.nil n)
  refine ⟨h1, Nat.le_trans h2 ?_⟩
  have hb : 0 ≤ mostC ns ∧ mostC ns ≤ 39 := by unfold mostC; split <;> omega
  obtain ⟨k, hk⟩ : ∃ k : Nat, 4 + mostC ns = (k : Int) := ⟨(4 + mostC ns).toNat, by omega⟩
  rw [hk]
  have := cutD_nat ns 4 k
  simp at this ⊢
  omega
def ordGo : Nat → Int → List Nat → List Nat → List Nat
  | 0, _, _, made => made
  | k + 1, c, left, made => if left = [] then made else ordGo k (c / (left.length : Int)) (left.eraseIdx (c % (left.length : Int)).toNat) (made ++ [left.getD (c % (left.length : Int)).toNat 0])
def ordBy (c : Int) (row : List Nat) : List Nat := ordGo row.length c row []
theorem perm_erase : ∀ (l : List Nat) (i : Nat), i < l.length → l.Perm (l.getD i 0 :: l.eraseIdx i)
  | [], i, h => by cases h
  | x :: l, 0, _ => .refl _
  | x :: l, i + 1, h => by
    have ih := perm_erase l i (by simpa using h)
    show (x :: l).Perm (l.getD i 0 :: x :: l.eraseIdx i)
    exact (ih.cons x).trans (.swap _ _ _)
theorem ordGo_perm : ∀ (k : Nat) (c : Int) (left made : List Nat), left.length ≤ k → (ordGo k c left made).Perm (made ++ left)
  | 0, c, left, made, h => by
    have : left = [] := List.eq_nil_of_length_eq_zero (by omega)
    subst this; show made.Perm (made ++ []); rw [List.append_nil]
  | k + 1, c, left, made, h => by
    by_cases e : left = []
    · subst e; rw [show ordGo (k + 1) c [] made = made from if_pos rfl, List.append_nil]
    · rw [show ordGo (k + 1) c left made = ordGo k (c / (left.length : Int)) (left.eraseIdx (c % (left.length : Int)).toNat) (made ++ [left.getD (c % (left.length : Int)).toNat 0]) from if_neg e]
      have hl : 0 < left.length := by cases left with | nil => exact absurd rfl e | cons => simp
      have h1 := Int.emod_nonneg c (show (left.length : Int) ≠ 0 by omega)
      have h2 := Int.emod_lt_of_pos c (show (0 : Int) < left.length by omega)
      have hi : (c % (left.length : Int)).toNat < left.length := by omega
      refine (ordGo_perm k _ _ _ (by rw [List.length_eraseIdx, if_pos hi]; omega)).trans ?_
      rw [List.append_assoc]
      exact List.Perm.append_left made (perm_erase left _ hi).symm
theorem ordBy_perm (c : Int) (row : List Nat) : (ordBy c row).Perm row := by
  have := ordGo_perm row.length c row [] (Nat.le_refl _)
  rwa [List.nil_append] at this
def turnsBy (ns : List Int) (n : Nat) (near : List (List Nat)) : List (List Nat) := (List.range n).map fun p : Nat => ordBy (cellZ ns 2 / (1 + 3 * (p : Int)) + 31 * (p : Int)) (near.getD p [])
theorem turnsBy_ok {ns : List Int} {n : Nat} {ts : List Tie} (g : Good n ts) : Tn n ts (turnsBy ns n (nearOf n ts)) := by
  refine ⟨g, by unfold turnsBy; rw [List.length_map, List.length_range], fun p => ?_⟩
  unfold turnsBy
  rw [List.getD_eq_getElem?_getD, List.getElem?_map]
  by_cases c : p < n
  · rw [List.getElem?_range c]
    exact ordBy_perm _ _
  · rw [List.getElem?_eq_none (by rw [List.length_range]; omega), List.getD_eq_getElem?_getD, List.getElem?_eq_none (by rw [nearOf_len]; omega)]
    exact .refl _
theorem revTurns_ok {n : Nat} {ts : List Tie} {turns : List (List Nat)} (h : Tn n ts turns) : Tn n ts (turns.map List.reverse) := by
  refine ⟨h.g, by rw [List.length_map]; exact h.len, fun p => ?_⟩
  rw [List.getD_eq_getElem?_getD, List.getElem?_map]
  have hp := h.perm p
  rw [List.getD_eq_getElem?_getD] at hp
  cases q : turns[p]? with
  | none => rw [q] at hp; exact hp
  | some t => rw [q] at hp; exact (List.reverse_perm t).trans hp
/-- the other ends of the ties at a point, put in order -/
theorem own_sort {n : Nat} {ts : List Tie} (g : Good n ts) (p : Nat) : sortN ((ts.filter (hasP p)).map (oth p)) = (nearOf n ts).getD p [] := by
  have m := nearOf_mem n ts (fun s hs => ⟨(g.rng s hs).1, (g.rng s hs).2.1⟩)
  refine sortN_of ?_ (nearOf_row n ts g p)
  refine (List.perm_ext_iff_of_nodup ?_ ((nearOf_row n ts g p).imp fun h => Nat.ne_of_lt h)).mpr fun y => ?_
  · unfold List.Nodup
    rw [List.pairwise_map, List.pairwise_filter]
    refine g.pw.imp_of_mem fun {a b} ha hb hab h1 h2 e => ?_
    have r1 := g.rng a ha
    have r2 := g.rng b hb
    have h1 := hasP_iff.mp h1
    have h2 := hasP_iff.mp h2
    obtain ⟨a1, a2⟩ := a
    obtain ⟨b1, b2⟩ := b
    obtain ⟨n1, n2⟩ := hab
    unfold oth at e
    simp only [Prod.mk.injEq, ne_eq] at *
    omega
  · rw [m, List.mem_map]
    constructor
    · rintro ⟨t, ht, rfl⟩
      obtain ⟨ht, hx⟩ := List.mem_filter.mp ht
      obtain ⟨a, b⟩ := t
      unfold oth
      rcases hasP_iff.mp hx with e | e
      · dsimp only at e; subst e
        left
        have : p + b - p = b := by omega
        rw [this]; exact ht
      · dsimp only at e; subst e
        right
        have : a + p - p = a := by omega
        rw [this]; exact ht
    · rintro (ht | ht)
      · exact ⟨_, List.mem_filter.mpr ⟨ht, hasP_iff.mpr (.inl rfl)⟩, by unfold oth; dsimp only; omega⟩
      · exact ⟨_, List.mem_filter.mpr ⟨ht, hasP_iff.mpr (.inr rfl)⟩, by unfold oth; dsimp only; omega⟩
/-! ### promises -/
def R_manyB (K : PySem.W.Frag) : Hp → Hp → List Sd → Sd → Prop := fun _ _ ss s => ∃ ns, ss = [.p (Scr K ns)] ∧ s = sN (manyB ns)
def sp_l_many (K : PySem.W.Frag) (C : Addr) : Sp := SpD (R_manyB K)
def R_tiesC (K : PySem.W.Frag) : Hp → Hp → List Sd → Sd → Prop := fun _ _ ss s => ∃ ns n, ss = [.p (Scr K ns), sN n] ∧ 1 ≤ n ∧ n ≤ 16 ∧ ns.length ≤ 63 ∧ s = .d (dTies (tiesC ns n))
def sp_l_ties (K : PySem.W.Frag) (C : Addr) : Sp := SpD (R_tiesC K)
def R_order : Hp → Hp → List Sd → Sd → Prop := fun _ _ ss s => ∃ c row, ss = [.d (.int c), .d (dNs row)] ∧ row.length ≤ 1000 ∧ s = .d (dNs (ordBy c row))
def sp_l_order_by (K : PySem.W.Frag) (C : Addr) : Sp := SpD R_order
def R_turnsBy (K : PySem.W.Frag) : Hp → Hp → List Sd → Sd → Prop := fun _ _ ss s => ∃ ns n ts, ss = [.p (Scr K ns), sN n, .d (dTies ts)] ∧ n ≤ 16 ∧ ts.length ≤ 40 ∧ Good n ts ∧ s = .d (dNear (turnsBy ns n (nearOf n ts)))
def sp_l_turns_by (K : PySem.W.Frag) (C : Addr) : Sp := SpD (R_turnsBy K)
def N_l_many : List Str := ["_law_script"]
def t_l_many (K : PySem.W.Frag) (C : Addr) : TS :=
  (tSeq (tIfS (tTest (tOp rEq (tOp (rI (fun _ j => 0 < j) fun i j => .int (i % j)) (tCall (sp_l_cell_at K C) [] E0 (tCons (tVar 0) (tCons (tC (.int 0)) tNil))) (tC (.int 6))) (tC (.int 5)))) (tRet (tOp (rI0 fun i j => .int (i + j)) (tC (.int 9)) (tOp (rI (fun _ j => 0 < j) fun i j => .int (i % j)) (tOp (rI CDiv fun i j => .int (i / j)) (tCall (sp_l_cell_at K C) [] E0 (tCons (tVar 0) (tCons (tC (.int 0)) tNil))) (tC (.int 6))) (tC (.int 8))))) tNext)
  (tRet (tOp (rI0 fun i j => .int (i + j)) (tC (.int 1)) (tOp (rI (fun _ j => 0 < j) fun i j => .int (i % j)) (tOp (rI CDiv fun i j => .int (i / j)) (tCall (sp_l_cell_at K C) [] E0 (tCons (tVar 0) (tCons (tC (.int 0)) tNil))) (tC (.int 6))) (tC (.int 8))))))
def N_l_ties : List Str := ["_law_script", "_law_many_here", "_law_made", "_law_most", "_law_cell", "_law_one", "_law_other"]
def t_l_ties (K : PySem.W.Frag) (C : Addr) : TS :=
  (tSeq (tAsg (tLst tNil) (gName 2))
  (tSeq (tAsg (tOp (rI0 fun i j => .int (i + j)) (tOp (rI (fun _ j => 0 < j) fun i j => .int (i % j)) (tCall (sp_l_cell_at K C) [] E0 (tCons (tVar 0) (tCons (tC (.int 1)) tNil))) (tC (.int 17))) (tOp (rI CMul fun i j => .int (i * j)) (tC (.int 23)) (tCB xIntOf (tCons (tOp rEq (tOp (rI (fun _ j => 0 < j) fun i j => .int (i % j)) (tOp (rI CDiv fun i j => .int (i / j)) (tCall (sp_l_cell_at K C) [] E0 (tCons (tVar 0) (tCons (tC (.int 1)) tNil))) (tC (.int 17))) (tC (.int 8))) (tC (.int 7))) tNil)))) (gName 3))
  (tSeq (tFor (iList K (tSl (rSlL K) (tVar 0) (tPart (tC (.int 4))) (tPart (tOp (rI0 fun i j => .int (i + j)) (tC (.int 4)) (tVar 3))))) (gName 4) (tSeq (tAsg (tOp (rI (fun _ j => 0 < j) fun i j => .int (i % j)) (tVar 4) (tVar 1)) (gName 5))
  (tSeq (tAsg (tOp (rI (fun _ j => 0 < j) fun i j => .int (i % j)) (tOp (rI0 fun i j => .int (i + j)) (tOp (rI0 fun i j => .int (i + j)) (tVar 5) (tC (.int 1))) (tOp (rI (fun _ j => 0 < j) fun i j => .int (i % j)) (tOp (rI CDiv fun i j => .int (i / j)) (tVar 4) (tVar 1)) (tCB xMax2 (tCons (tC (.int 1)) (tCons (tOp (rI0 fun i j => .int (i - j)) (tVar 1) (tC (.int 1))) tNil))))) (tVar 1)) (gName 6))
  (tIfS (tAnd (tTest (tOp rNe (tVar 5) (tVar 6))) (tAnd (tTest (tOp (rNotInD K) (tTup (tCons (tVar 5) (tCons (tVar 6) tNil))) (tVar 2))) (tTest (tOp (rNotInD K) (tTup (tCons (tVar 6) (tCons (tVar 5) tNil))) (tVar 2))))) (tDrop (tBM K "list" rAppend (tVar 2) (tCons (tTup (tCons (tVar 5) (tCons (tVar 6) tNil))) tNil))) tNext))))
  (tRet (tVar 2)))))
def N_l_order_by : List Str := ["_law_cell", "_law_row", "_law_left", "_law_made"]
def t_l_order_by (K : PySem.W.Frag) (C : Addr) : TS :=
  (tSeq (tAsg (tCB (xListOf K) (tCons (tVar 1) tNil)) (gName 2))
  (tSeq (tAsg (tLst tNil) (gName 3))
  (tSeq (tWhile (tTest (tOp (rNeD K) (tVar 2) (tLst tNil))) (tSeq (tDrop (tBM K "list" rAppend (tVar 3) (tCons (tBM K "list" rPopAt (tVar 2) (tCons (tOp (rI (fun _ j => 0 < j) fun i j => .int (i % j)) (tVar 0) (tCB (xLen K) (tCons (tVar 2) tNil))) tNil)) tNil)))
  (tAsg (tOp (rI CDiv fun i j => .int (i / j)) (tVar 0) (tOp (rI0 fun i j => .int (i + j)) (tCB (xLen K) (tCons (tVar 2) tNil)) (tC (.int 1)))) (gName 0))))
  (tRet (tVar 3)))))
def N_l_turns_by : List Str := ["_law_script", "_law_many_here", "_law_ties_here", "_law_turns", "_law_point", "_law_own", "_law_tie"]
def t_l_turns_by (K : PySem.W.Frag) (C : Addr) : TS :=
  (tSeq (tAsg (tLst tNil) (gName 3))
  (tSeq (tFor (iRng1 (tCons (tVar 1) tNil)) (gName 4) (tSeq (tAsg (tLc (iList K (tVar 2)) (gName 6) (tTest (tOp (rIn K false) (tVar 4) (tVar 6))) (tOp (rI0 fun i j => .int (i - j)) (tOp (rI0 fun i j => .int (i + j)) (tOp (rIx K) (tVar 6) (tC (.int 0))) (tOp (rIx K) (tVar 6) (tC (.int 1)))) (tVar 4)) [6]) (gName 5))
  (tDrop (tBM K "list" rAppend (tVar 3) (tCons (tCall (sp_l_order_by K C) [] E0 (tCons (tOp (rI0 fun i j => .int (i + j)) (tOp (rI CDiv fun i j => .int (i / j)) (tCall (sp_l_cell_at K C) [] E0 (tCons (tVar 0) (tCons (tC (.int 2)) tNil))) (tOp (rI0 fun i j => .int (i + j)) (tC (.int 1)) (tOp (rI CMul fun i j => .int (i * j)) (tC (.int 3)) (tVar 4)))) (tOp (rI CMul fun i j => .int (i * j)) (tC (.int 31)) (tVar 4))) (tCons (tCB (rSortedI K) (tCons (tVar 5) tNil)) tNil))) tNil)))))
  (tRet (tVar 3))))
section
variable {B : Base} {Δ : List Sd} {C : Cs} {ta tb te : TE} {tu tz : TS} {D : Ends} {K : PySem.W.Frag}
theorem map_erase {α β : Type} (f : α → β) : ∀ (l : List α) (j : Nat), (l.map f).eraseIdx j = (l.eraseIdx j).map f
  | [], _ => rfl
  | _ :: _, 0 => rfl
  | x :: l, j + 1 => by show f x :: (l.map f).eraseIdx j = f x :: (l.eraseIdx j).map f; rw [map_erase f l j]
theorem rc_intB {b : Bool} : RC B Δ C xIntOf [.d (.bool b)] (.d (.int (if b = true then 1 else 0))) := fun σ H F hs xs w Q q => by
  cases w with | cons w w' =>
    cases w'; cases w
    exact .inr ⟨b, rfl, q.now hs (.int _)⟩
/-- xs.append(ys.pop(i)) -/
theorem s_appPop {k1 k2 : Nat} {l1 l2 : Addr} {ss1 ss2 : List Sd} {i : Int} {j : Nat} {s : Sd} (h1 : C[k1]? = some (l1, .lst ss1)) (h2 : C[k2]? = some (l2, .lst ss2)) (n12 : k1 ≠ k2) (ho1 : Ev B Δ C ta (.v (.ref l1))) (ho2 : Ev B Δ C tb (.v (.ref l2))) (hi : Ev B Δ C te (.d (.int i))) (hj : i = (j : Int)) (hs : ss2[j]? = some s) (hz : ss1.length < 100000) (hz2 : ss2.length < 100000)
    (kk : Nx B Δ ((C.set k2 (l2, .lst (ss2.eraseIdx j))).set k1 (l1, .lst (ss1 ++ [s]))) D.nx) : WP B Δ C (tDrop (tBM K "list" rAppend ta (tCons (tBM K "list" rPopAt tb (tCons te tNil)) tNil))) D := fun σ H ⟨F, hst⟩ =>
  ho1 σ H F hst _ fun v F1 H1 st1 e1 e1' w1 => by
    cases w1
    obtain ⟨_, o, hx, xs, rfl, _⟩ := st1.cell h1
    refine ⟨.inl ⟨rfl, xs, SqL.of hx⟩, ho2 σ H1 F1 st1 _ fun v F2 H2 st2 e2 e2' w2 => ?_⟩
    cases w2
    obtain ⟨_, o, hx, xs, rfl, _⟩ := st2.cell h2
    refine ⟨.inl ⟨rfl, xs, SqL.of hx⟩, hi σ H2 F2 st2 _ fun v F3 H3 st3 e3 e3' w3 => ?_⟩
    cases w3
    obtain ⟨_, o, hx, xs, rfl, r⟩ := st3.cell h2
    subst hj
    have hjl : j < ss2.length := (List.getElem?_eq_some_iff.mp hs).1
    obtain ⟨y, hy, wy⟩ := r.get hs
    refine ⟨l2, xs, (j : Int), j, y, rfl, rfl, hx, by omega, by have : j < 100000 := by omega
                                                                omega, ?_, hy, ?_⟩
    · exact (ixN_seq (ixN_nat (n := xs.length) (j := j) (by rw [r.length]; exact hjl))).1
    · have st4 := st3.put h2 (c' := .lst (ss2.eraseIdx j)) (o := .lst (xs.eraseIdx j)) ⟨_, rfl, r.eraseIdx j⟩
      have h1' : (C.set k2 (l2, .lst (ss2.eraseIdx j)))[k1]? = some (l1, .lst ss1) := by rw [List.getElem?_set_ne (Ne.symm n12)]; exact h1
      obtain ⟨_, o, hx1, xs1, rfl, r1⟩ := st4.cell h1'
      exact ⟨l1, xs1, y, rfl, rfl, hx1, sz_lt (by rw [r1.length]; exact hz), kk _ _ ⟨F3, st4.put h1' ⟨_, rfl, r1.append (.cons wy .nil)⟩⟩⟩
end
section
variable {K : PySem.W.Frag} {C : Addr} {vs : List V} {H : Hp} {Q : VK} {E : XK}
theorem pure_l_many (h : sp_l_many K C vs H Q E) : t_l_many K C { nx := fun _ H' => Q .non H', rt := Q } (L2.start N_l_many vs) H := by
  refine enterD h fun F ss s hf ha hR hq => ?_
  obtain ⟨ns, rfl, rfl⟩ := hR
  refine ⟨_, ha, ?_⟩
  show WP ⟨F, H, []⟩ [.p (Scr K ns)] [] (t_l_many K C) _
  have hc : ∀ {B'}, Ev B' [.p (Scr K ns)] [] (tCall (sp_l_cell_at K C) [] E0 (tCons (tVar 0) (tCons (tC (.int 0)) tNil))) (.d (.int (cellZ ns 0))) := fun {B'} => ev_call (ea_cons (ev_var rfl rfl) (ea_cons ev_int ea_nil)) fun _ _ _ _ => ⟨ns, 0, rfl, rfl⟩
  have h1 := manyB_rng ns
  have e : ((manyB ns : Nat) : Int) = (if cellZ ns 0 % 6 = 5 then 9 + cellZ ns 0 / 6 % 8 else 1 + cellZ ns 0 / 6 % 8) := by
    unfold manyB
    split <;> omega
  refine q_when (b := decide (cellZ ns 0 % 6 = 5)) (et_test (ev_op (ev_op hc ev_int (rv_iC (P := fun _ j => 0 < j) (by decide))) ev_int rv_eqI)) (fun c => ?_) (fun c => ?_)
  · refine s_ret (s := sN (manyB ns)) (ev_eq (ev_op ev_int (ev_op (ev_op hc ev_int (rv_iC (P := CDiv) ⟨by decide, by decide⟩)) ev_int (rv_iC (P := fun _ j => 0 < j) (by decide))) rv_ii) ?_) hq
    rw [show sN (manyB ns) = .d (.int ((manyB ns : Nat) : Int)) from rfl, e, if_pos (of_decide_eq_true c)]
  · refine s_ret (s := sN (manyB ns)) (ev_eq (ev_op ev_int (ev_op (ev_op hc ev_int (rv_iC (P := CDiv) ⟨by decide, by decide⟩)) ev_int (rv_iC (P := fun _ j => 0 < j) (by decide))) rv_ii) ?_) hq
    rw [show sN (manyB ns) = .d (.int ((manyB ns : Nat) : Int)) from rfl, e, if_neg (of_decide_eq_false c)]
theorem pure_l_ties (h : sp_l_ties K C vs H Q E) : t_l_ties K C { nx := fun _ H' => Q .non H', rt := Q } (L2.start N_l_ties vs) H := by
  refine enterD h fun F ss s hf ha hR hq => ?_
  obtain ⟨ns, n, rfl, h1, h16, h63, rfl⟩ := hR
  refine ⟨_, ha, ?_⟩
  show WP ⟨F, H, []⟩ [.p (Scr K ns), sN n, .no, .no, .no, .no, .no] [] (t_l_ties K C) _
  refine q_new evN_lst0 fun l hl => ?_
  have hl : H l = none := hl
  have hc : ∀ {Δ C'}, Δ[0]? = some (.p (Scr K ns)) → Ev ⟨F, H, []⟩ Δ C' (tCall (sp_l_cell_at K C) [] E0 (tCons (tVar 0) (tCons (tC (.int 1)) tNil))) (.d (.int (cellZ ns 1))) := fun hv => ev_call (ea_cons (ev_var hv rfl) (ea_cons ev_int ea_nil)) fun _ _ _ _ => ⟨ns, 1, rfl, rfl⟩
  refine q_asg (s := .d (.int (mostC ns))) (ev_eq (ev_op (ev_op (hc rfl) ev_int (rv_iC (P := fun _ j => 0 < j) (by decide))) (ev_op ev_int (ev_cb (ea_cons (ev_op (ev_op (ev_op (hc rfl) ev_int (rv_iC (P := CDiv) ⟨by decide, by decide⟩)) ev_int (rv_iC (P := fun _ j => 0 < j) (by decide))) ev_int rv_eqI) ea_nil) rc_intB) (rv_iC (P := CMul) ?_)) rv_ii) ?_) ?_
  · unfold CMul
    split <;> decide
  · unfold mostC
    simp
  have hz : ∀ i, (tiesL n [] ((cutD ns (some 4) (some (4 + mostC ns))).take i)).length ≤ 1000 := fun i => by
    have h2 := (tiesL_good (n := n) h1 ((cutD ns (some 4) (some (4 + mostC ns))).take i) [] (Good.nil n)).2
    have h3 := List.length_take_le' i (cutD ns (some 4) (some (4 + mostC ns)))
    have h4 := cutD_len ns (some 4) (some (4 + mostC ns))
    simp at h2; omega
  refine q_for1 (α := Unit) PyData.int (Src.list (ev_slS (ev_var rfl rfl) (eo_some ev_int) (eo_some (ev_op ev_int (ev_var rfl rfl) rv_ii)))) (fun _ _ => True) (fun _ _ => [.p (Scr K ns), sN n, .v (.ref l), .d (.int (mostC ns)), .any, .any, .any])
    (fun i _ => [(l, .lst ((tiesL n [] ((cutD ns (some 4) (some (4 + mostC ns))).take i)).map sTie))]) (fun G => nx_inv () trivial) ?_ ?_
  · intro G i _ z hz' _
    refine wp_tie (n := n) (z := z) (l := l) (k := 0) h1 h16 rfl rfl rfl rfl (hz i) (by decide) (by show 5 < 7; decide) (by show 6 < 7; decide) (nx_inv () trivial (hC := ?_))
    rw [take_succ hz', tiesL_snoc]; rfl
  · intro _ _
    rw [List.take_length]
    exact s_retC (ds := (tiesC ns n).map dTie) (k := 0) (by rw [List.map_map]; rfl) (ev_var rfl rfl) hq (by simpa using hl)
theorem pure_l_order_by (h : sp_l_order_by K C vs H Q E) : t_l_order_by K C { nx := fun _ H' => Q .non H', rt := Q } (L2.start N_l_order_by vs) H := by
  refine enterD h fun F ss s hf ha hR hq => ?_
  obtain ⟨c, row, rfl, hrl, rfl⟩ := hR
  refine ⟨_, ha, ?_⟩
  show WP ⟨F, H, []⟩ [.d (.int c), .d (dNs row), .no, .no] [] (t_l_order_by K C) _
  refine q_new (c := .lst (row.map sN)) (evN_eq (evN_cb (ea_cons (ev_var rfl rfl) ea_nil) rcN_listL) (by rw [List.map_map]; rfl)) fun a2 h2 => ?_
  have h2 : H a2 = none := h2
  refine q_new evN_lst0 fun a3 h3 => ?_
  have h3 : H a3 = none := h3
  refine q_while (α := Nat × Int × List Nat × List Nat) (fun p => ordGo p.1 p.2.1 p.2.2.1 p.2.2.2 = ordBy c row ∧ p.2.2.1.length ≤ p.1 ∧ p.1 + p.2.2.2.length ≤ row.length) (fun p => p.2.2.1.length)
    (fun p => [.d (.int p.2.1), .d (dNs row), .v (.ref a2), .v (.ref a3)]) (fun p => [(a3, .lst (p.2.2.2.map sN)), (a2, .lst (p.2.2.1.map sN))]) (fun p => !decide (p.2.2.1 = [])) ?_ ?_ ?_ ?_
  · exact nx_inv (row.length, c, row, []) ⟨rfl, Nat.le_refl _, by simp⟩
  · rintro ⟨k, z, left, made⟩ _
    exact et_test (ev_op (ev_var rfl rfl) ev_lst0 (rv_neWG (f := dNs) (a := left) (b := []) faith_ns (now_c 1 (ds := left.map dN) (by rw [List.map_map]; rfl)) now_d (sh_ns _) (sh_ns _)))
  · rintro ⟨k, z, left, made⟩ ⟨i1, i2, i3⟩ ht
    have hne : left ≠ [] := by simpa using ht
    dsimp only at i1 i2 i3
    have hl : 0 < left.length := by cases left with | nil => exact absurd rfl hne | cons => simp
    cases k with
    | zero => omega
    | succ k =>
    rw [show ordGo (k + 1) z left made = ordGo k (z / (left.length : Int)) (left.eraseIdx (z % (left.length : Int)).toNat) (made ++ [left.getD (z % (left.length : Int)).toNat 0]) from if_neg hne] at i1
    have g1 := Int.emod_nonneg z (show (left.length : Int) ≠ 0 by omega)
    have g2 := Int.emod_lt_of_pos z (show (0 : Int) < left.length by omega)
    have hi : (z % (left.length : Int)).toNat < left.length := by omega
    have ej : z % (left.length : Int) = (((z % (left.length : Int)).toNat : Nat) : Int) := by omega
    generalize (z % (left.length : Int)).toNat = j at i1 hi ej
    have hget : (left.map sN)[j]? = some (sN (left.getD j 0)) := by
      rw [List.getElem?_map, List.getElem?_eq_getElem hi, List.getD_eq_getElem?_getD, List.getElem?_eq_getElem hi]; rfl
    have hel : (left.eraseIdx j).length = left.length - 1 := by rw [List.length_eraseIdx, if_pos hi]
    refine wp_seq (s_appPop (k1 := 0) (k2 := 1) (j := j) rfl rfl (by decide) (ev_var rfl rfl) (ev_var rfl rfl) (ev_op (ev_var rfl rfl) (ev_eq (ev_cb (ea_cons (ev_var rfl rfl) ea_nil) (rc_lenC (k := 1) rfl)) (by rw [List.length_map])) (rv_iC (P := fun _ j => 0 < j) (by omega))) ej hget (by show (made.map sN).length < 100000; rw [List.length_map]; omega) (by show (left.map sN).length < 100000; rw [List.length_map]; omega) ?_)
    refine s_asg (s := .d (.int (z / (left.length : Int)))) (ev_eq (ev_op (ev_var rfl rfl) (ev_op (ev_eq (ev_cb (ea_cons (ev_var rfl rfl) ea_nil) (rc_lenC (k := 1) rfl)) (show _ = Sd.d (.int (((left.length - 1 : Nat)) : Int)) by
      rw [List.length_eraseIdx, if_pos (by rw [List.length_map]; exact hi), List.length_map])) ev_int rv_ii) (rv_iC (P := CDiv) ⟨?_, ?_⟩)) ?_) (nx_inv (k, z / (left.length : Int), left.eraseIdx j, made ++ [left.getD j 0]) ⟨⟨i1, ?_, ?_⟩, ?_⟩ (hC := ?_))
    · omega
    · omega
    · congr 3; omega
    · dsimp only; omega
    · dsimp only; rw [List.length_append]; simp; omega
    · dsimp only; omega
    · show [(a3, Cd.lst (made.map sN ++ [sN (left.getD j 0)])), (a2, Cd.lst ((left.map sN).eraseIdx j))] = _
      rw [map_erase]; simp
  · rintro ⟨k, z, left, made⟩ ⟨i1, i2, i3⟩ ht
    have he : left = [] := by simpa using ht
    subst he
    have e : made = ordBy c row := by
      rw [← i1]
      cases k with
      | zero => rfl
      | succ k => exact (if_pos rfl).symm
    rw [← e] at hq
    exact s_retC (ds := made.map dN) (k := 0) (by rw [List.map_map]; rfl) (ev_var rfl rfl) hq (by simp; exact ⟨h3, h2⟩)
theorem pure_l_turns_by (h : sp_l_turns_by K C vs H Q E) : t_l_turns_by K C { nx := fun _ H' => Q .non H', rt := Q } (L2.start N_l_turns_by vs) H := by
  refine enterD h fun F ss s hf ha hR hq => ?_
  obtain ⟨ns, n, ts, rfl, h16, h40, g, rfl⟩ := hR
  refine ⟨_, ha, ?_⟩
  show WP ⟨F, H, []⟩ [.p (Scr K ns), sN n, .d (dTies ts), .no, .no, .no, .no] [] (t_l_turns_by K C) _
  refine q_new evN_lst0 fun l hl => ?_
  have hl : H l = none := hl
  have hrow := fun p => row_len g h16 p
  refine q_for1 (α := Unit) dN (Src.rN (ea_cons (ev_var rfl rfl) ea_nil)) (fun _ _ => True) (fun _ _ => [.p (Scr K ns), sN n, .d (dTies ts), .v (.ref l), .any, .any, .any]) (fun i _ => [(l, .lst ((turnsBy ns i (nearOf n ts)).map sNs))]) (fun G => nx_inv () trivial) ?_ ?_
  · intro G i _ p hp _
    have hpi : p = i ∧ p < n := by
      have h1 : p < n := by rw [← List.mem_range]; exact List.mem_of_getElem? hp
      have h2 := (List.getElem?_eq_some_iff.mp hp).1
      rw [List.length_range] at h2
      rw [List.getElem?_range h2] at hp
      exact ⟨(Option.some.inj hp).symm, h1⟩
    obtain ⟨rfl, hpn⟩ := hpi
    have hnext : turnsBy ns (p + 1) (nearOf n ts) = turnsBy ns p (nearOf n ts) ++ [ordBy (cellZ ns 2 / (1 + 3 * (p : Int)) + 31 * (p : Int)) ((nearOf n ts).getD p [])] := by
      unfold turnsBy; rw [List.range_succ, List.map_append]; rfl
    have hc : ∀ {Δ C'}, Δ[0]? = some (.p (Scr K ns)) → Ev ⟨F, H, G⟩ Δ C' (tCall (sp_l_cell_at K C) [] E0 (tCons (tVar 0) (tCons (tC (.int 2)) tNil))) (.d (.int (cellZ ns 2))) := fun hv => ev_call (ea_cons (ev_var hv rfl) (ea_cons ev_int ea_nil)) fun _ _ _ _ => ⟨ns, 2, rfl, rfl⟩
    refine q_asg (s := .d (dNs ((ts.filter (hasP p)).map (oth p)))) (ev_of' (((ts.filter (hasP p)).map (oth p)).map dN) (evN_lc1 dTie (hasP p) (fun t => sN (oth p t)) (Src.list (ev_var rfl rfl)) (fun B' t le htm => ?_) (fun B' t le htm hh => ?_) (by omega)) (by rw [List.map_map, List.map_map]; rfl)) ?_
    · refine evT_eq (et_test (ev_op (ev_var rfl rfl) (ev_var rfl rfl) (rv_inTI (ns := [(t.1 : Int), (t.2 : Int)])))) ?_
      unfold hasP
      rw [Bool.eq_iff_iff]
      simp only [decide_eq_true_eq, List.mem_cons, List.not_mem_nil, or_false, Bool.or_eq_true]
      omega
    · refine ev_eq (ev_op (ev_op (ev_op (ev_var rfl rfl) ev_int (rv_xT (atI_nat (j := 0) rfl))) (ev_op (ev_var rfl rfl) ev_int (rv_xT (atI_nat (j := 1) rfl))) rv_ii) (ev_var rfl rfl) rv_ii) ?_
      show Sd.d (.int (((t.1 : Nat) : Int) + (t.2 : Nat) - (p : Nat))) = Sd.d (.int ((oth p t : Nat) : Int))
      congr 2
      unfold oth
      rcases hasP_iff.mp hh with e | e <;> omega
    refine s_app (k := 0) (s := sNs (ordBy (cellZ ns 2 / (1 + 3 * (p : Int)) + 31 * (p : Int)) ((nearOf n ts).getD p []))) rfl (ev_var rfl rfl) (ev_call (ea_cons (ev_op (ev_op (hc rfl) (ev_op ev_int (ev_op ev_int (ev_var rfl rfl) (rv_iC (P := CMul) ?_)) rv_ii) (rv_iC (P := CDiv) ⟨?_, ?_⟩)) (ev_op ev_int (ev_var rfl rfl) (rv_iC (P := CMul) ?_)) rv_ii) (ea_cons (ev_of' (((nearOf n ts).getD p []).map dN) (evN_cb (ea_cons (ev_eq (ev_var rfl rfl) (show Sd.d (dNs ((ts.filter (hasP p)).map (oth p))) = .d (.list ((((ts.filter (hasP p)).map (oth p)).map fun k : Nat => (k : Int)).map .int)) by rw [List.map_map (g := PyData.int)]; rfl)) ea_nil) rcN_sorted) ?_) ea_nil)) fun _ _ _ _ => ⟨_, _, rfl, by have := hrow p; omega, rfl⟩) (nx_inv () trivial (hC := by rw [hnext, List.map_append]; rfl)) ?_
    · unfold CMul; omega
    · omega
    · omega
    · unfold CMul; omega
    · rw [sortI_nat, own_sort g]; simp only [List.map_map]; rfl
    · unfold turnsBy; rw [List.length_map, List.length_map, List.length_range]; omega
  · intro _ _
    rw [List.length_range]
    exact s_retC (ds := (turnsBy ns n (nearOf n ts)).map dNs) (k := 0) (by rw [List.map_map]; rfl) (ev_var rfl rfl) hq (by simpa using hl)
end
end FS

set_option Elab.async false
set_option linter.all false
set_option maxRecDepth 100000
set_option maxHeartbeats 1000000
set_option autoImplicit false
/-! the caught exception handed to a def -/
namespace FE
open PySem PySem.Spec PyProof.Rows L2 L2H
/-- what a def keeps where p is handled (p's object in the context of its body) -/
def RunsAt (P : Program) (w : World) (K : PySem.W.Frag) (mg : Str → Option Value) (base : Heap) (k : Nat) (f : Addr) (fd : FuncData) (ps : List Str) (p : Addr × Obj) (sp : Sp) : Prop :=
  ∀ (A : Around) (outer : List Env) (s : Shared) (H : Hp) (args : Args) (us : List Value) (vs : List V) (Q : VK) (E : XK), RoomH k A → Hot1 A p → PinOk outer H s p → Env0 P w K mg base A outer s H → BindsTo s fd args (ps.zip us) → Vals vs us → sp vs H Q E →
    codeAny (model P w) A (.call (.ref f) args) (CR CX0 outer P w H s Q E) s
/-- isinstance of the exception that the context holds -/
theorem call_isP {X : Cx} {a D : Addr} {oe : Obj} (hp : (a, oe) ∈ X.pn) (C : ExcC X.K D) (hz : Zc (.ref D) none oe) (hf : ∃ vs, oe.data = .fields vs) : CallR X (.builtin "isinstance") (rIsE X.K D a) := by
  intro pins s σ H xs us Q I r h
  obtain ⟨c, cv, b, rfl, hcv, e, q⟩ := h
  cases r with
  | cons rx rr =>
    cases rr with
    | cons rt rr =>
      cases rr
      cases rx
      have ec := hcv _ rt
      subst ec
      obtain ⟨hget, _⟩ := I.pin (a, oe) (List.mem_append_left _ hp)
      obtain ⟨vs, hv⟩ := hf
      have J : PySem.W.InstAt s.heap a oe D none := by
        obtain ⟨oc, od, oda, osl⟩ := oe
        obtain ⟨h1, h2⟩ := hz
        dsimp only at h1 h2 hv
        subst h1 h2 hv
        exact ⟨hget, rfl, rfl, trivial⟩
      exact PySem.W.kia_one (PySem.W.handS_kitx_exc C.hg C.hk C.hs C.hd C.ha C.hn C.ht C.hm) I.kIn J e (fun z => nomatch z) fun tk => ⟨.bl b, H, I.kept (t' := tk) fun _ _ z => z, rfl, q⟩
section
variable {X : Cx} {k : Nat} {f : Addr} {fd : FuncData} {ps : List Str} {sp : Sp} {x : Str} {q pos : Pos} {e : Expr} {es : List Expr} {t : TA} {p : Addr × Obj}
/-- such a def, called where p is handled -/
theorem pe_callP (F : RunsAt X.prog X.w X.K X.mg X.base k f fd ps p sp) (hlen : ∀ vs H Q E, sp vs H Q E → vs.length = ps.length) (hr : RoomH k X.A) (hot : Hot1 X.A p) (hp : p ∈ X.pn) (hg : Gl X x) (hm : X.mg x = some (.ref f)) (hk : PySem.W.keepIn X.K (.ref f) = true) (hb : Binds X.K fd ps [])
    (ha : PA X (e :: es) t) (hdb : (x == ("__debug__" : Str)) = false := by decide) (he : starEach (e :: es) X.env = (false, eval e X.env) :: starEach es X.env := by rfl) (hpl : (backTo pos (starEach es X.env)).any (·.1) = false := by rfl) :
    PE X (.Call (.Name x q) (e :: es) [] pos) (tCall sp [] E0 t) := by
  refine ⟨fun pins s σ H Q I h => ?_⟩
  refine wpAny_Call_Name_kw (ld_glob I hg hm ?_ hdb)
  refine PySem.W.callWith_K (h₀ := X.base) I.ok.mod.kin hk (thn (ha.run pos pins s σ H _ I h) fun us s1 ⟨vs, H1, I1, r, q⟩ => ⟨I1.kIn, ?_⟩) he hpl
  have q : sp vs H1 Q E0 := by
    have z : sp (vs ++ []) H1 Q E0 := q
    rwa [List.append_nil] at z
  show wpAny (model X.prog X.w) X.A (call (.ref f) us) (EP X pins σ Q) X.xe s1
  have hl : us.length = ps.length := by rw [← r.length]; exact hlen _ _ _ _ q
  have b := hb s1 us I1.kIn (by rw [List.append_nil]; exact hl)
  rw [List.append_nil] at b
  have P1 := I1.pin p (List.mem_append_left _ hp)
  have hpin : PinOk X.stack H1 s1 p := ⟨P1.1, P1.2.1, fun hm => (List.mem_cons.mp (I1.stkSub p.1 hm)).elim P1.2.2.1 P1.2.2.2.1, P1.2.2.2.2⟩
  refine wpAny_call (codeAny_mono (F X.A X.stack s1 H1 ⟨us, []⟩ us vs Q E0 hr hot hpin I1.env0 b r q) fun r' s' hq => ?_)
  cases r' with
  | error e => exact absurd hq (by intro z; exact z)
  | ok fl =>
    cases fl with
    | ret u => exact I1.after hq
    | next => exact False.elim hq
    | brk => exact False.elim hq
    | cont => exact False.elim hq
end
/-- the rule for such a def -/
theorem fn_at {P : Program} {w : World} {K : PySem.W.Frag} {mg : Str → Option Value} {base : Heap} {k : Nat} {f : Addr} {x qual : Str} {st : Stmt} {fd : FuncData} {N ps : List Str} {sp : Sp} {p : Addr × Obj} (Fn : Fun K x qual st f fd) (S : FnScope N ps (defScope st)) (len : ∀ vs H Q E, sp vs H Q E → vs.length = ps.length)
    (hbody : ∀ (cdv : Value) (A : Around) (outer : List Env) (s : Shared) (H : Hp) (vs : List V) (Q : VK) (E : XK), Hot1 A p → RoomH k (A.deeper (envOfC qual (defScope st) s.heap.objs.size f cdv)) → sp vs H Q E →
      ∃ t, PSs (cxH CX0 P w K mg base N qual (defScope st) f cdv A outer s H E p) (defBody st) t ∧ t { nx := fun _ H' => Q .non H', rt := Q } (L2.start N vs) H) : RunsAt P w K mg base (k + 1) f fd ps p sp := by
  obtain ⟨oc, od, kV, doc, pm, an, cdv, ct, osl, rfl, lk, hcd⟩ := Fn.ex
  intro A outer s H args us vs Q E hr hot hpin e0 hb r hsp
  have hl := len _ _ _ _ hsp
  have KX : K.In s.heap := e0.mod.kin.keeps fun b o e => (e0.bs b o e).1
  have lim : s.heap.NoLimit := e0.mod.nolimit.keeps fun b o e => (e0.bs b o e).1
  have hkind : ∀ y ∈ ps.zip us, (defScope st).names.lookup y.1 = some .local ∨ ((defScope st).names.lookup y.1 = some .cell ∧ ((cellsFrom (s.heap.objs.size + 1) (defScope st).names []).lookup y.1).isSome = true) := fun ⟨n, v⟩ hy => by
    rcases S.par n (List.of_mem_zip hy).1 with q | q
    · exact .inl q
    · exact .inr ⟨q, PySem.W.cellsFrom_some _ _ _ (.inl q)⟩
  refine codeAny_call_function hr.depth (KX _ _ lk) rfl S.co S.gen rfl (PySem.W.codeRec_of KX hcd) (hb _ _ _ _ ?_)
  refine wpAny_newFunctionEnv_cells S.kind hkind fun env he s1 y => ?_
  subst he
  refine ⟨lim.keeps y.toInCall.keep, codeAny_func ?_⟩
  obtain ⟨t, ht, hq⟩ := hbody cdv A outer s H vs Q E hot (hr.deeper _) hsp
  have I := inv_startH (CX := CX0) (E := E) S hpin e0 hl r y
  refine wpAny_mono (ht.run [] s1 (L2.start N vs) H _ I hq) (fun fl s' hs => ?_) fun e s' hs => hs
  cases fl with
  | ret u =>
    obtain ⟨v, σ', H', J, rv, q⟩ := hs
    exact ⟨v, H', J.os, J.bare, J.base, J.hok, rv, q⟩
  | next =>
    obtain ⟨σ', H', J, q⟩ := hs
    exact ⟨V.non, H', J.os, J.bare, J.base, J.hok, rfl, q⟩
  | brk =>
    obtain ⟨_, _, _, q⟩ := hs
    exact False.elim q
  | cont =>
    obtain ⟨_, _, _, q⟩ := hs
    exact False.elim q
/-- a def that may raise -/
theorem okN {P : Program} {w : World} {K : PySem.W.Frag} {mg : Str → Option Value} {base : Heap} {x qual : Str} {st : Stmt} {f : Addr} {fd : FuncData} {N ps : List Str} {k : Nat} {sp : Sp} (Fn : Fun K x qual st f fd) (S : FnScope N ps (defScope st)) (len : ∀ vs H Q E, sp vs H Q E → vs.length = ps.length)
    (hbody : ∀ (cdv : Value) (A : Around) (outer : List Env) (s : Shared) (H : Hp) (vs : List V) (Q : VK) (E : XK), Room k (A.deeper (envOfC qual (defScope st) s.heap.objs.size f cdv)) → sp vs H Q E →
      ∃ t, PSs (cxOf (L2N.CX P w) P w K mg base N qual (defScope st) f cdv A outer s H E) (defBody st) t ∧ t { nx := fun _ H' => Q .non H', rt := Q } (L2.start N vs) H) : FnOk P w K mg base (L2N.CX P w) (k + 1) f fd ps sp := by
  obtain ⟨oc, od, kV, doc, pm, an, cdv, ct, osl, rfl, lk, hcd⟩ := Fn.ex
  exact fn_of lk hcd S len fun A outer s H vs Q E hr hsp => hbody cdv A outer s H vs Q E hr hsp
/-- a call whose way out doesn't tell of the slots, in a body that W takes -/
theorem passN {X : Cx} {W : WX} (tk : L2N.Takes X W) : Passes (L2N.CX X.prog X.w) X (fun cls d H => ∀ σ : L2.St, σ.length = X.N.length → W cls d σ H) := fun pins σ H s e s' I c =>
  tk e s' (L2N.XE.of_call I (fun cls d H' h => h σ I.len) c)
end FE
namespace FE
open PySem PySem.Spec PyProof.Rows L2
/-- != of two lists with the same items (None, or objects) -/
def plainV : V → Bool
  | .non => true
  | .ref _ => true
  | _ => false
def rNeSm (K : PySem.W.Frag) : R2 := fun x y H Q => ∃ (a b : Addr) (xs : List V), x = .ref a ∧ y = .ref b ∧ SqL K H a xs ∧ SqL K H b xs ∧ xs.all plainV = true ∧ Q (.bl false) H
theorem plain_same : ∀ {xs : List V} {us vs : List Value}, xs.all plainV = true → Vals xs us → Vals xs vs → us = vs
  | [], _, _, _, .nil, .nil => rfl
  | x :: xs, _, _, h, .cons r1 t1, .cons r2 t2 => by
    rw [List.all_cons, Bool.and_eq_true] at h
    rw [plain_same h.2 t1 t2]
    cases x <;> first | (cases h.1; done) | (cases r1; cases r2; rfl)
theorem op_neSm {X : Cx} (hu : X.A.units + 64 < cLine) : OpR X (compareOp .NotEq) (rNeSm X.K) := by
  intro pins s σ H x y v u Q I rx ry h
  obtain ⟨a, b, xs, rfl, rfl, ha, hb, hp, q⟩ := h
  cases rx; cases ry
  obtain ⟨us, r1, l1, _⟩ := I.list ha
  obtain ⟨vs, r2, l2, _⟩ := I.list hb
  obtain rfl := plain_same hp r1 r2
  have he : ∀ j (j1 : j < us.toArray.size) (j2 : j < us.toArray.size), SeqAt.EqAt X.A.in1 s us.toArray[j] us.toArray[j] true := fun j _ _ => SeqAt.EqAt.same _
  have := SeqAt.RcNeAt.lists (A := X.A) (e := fun _ => true) l1.isList l2.isList rfl (by omega) he
  refine this X.prog X.w _ _ ?_
  have e : (!(List.range us.toArray.size).all fun _ => true) = false := by simp
  rw [e]
  exact ⟨.bl false, H, I, rfl, q⟩
end FE
namespace FE
open PySem L2 FD
open Evl (Ex)
/-- raise cls(..): what follows -/
def tRaise (E : XK) (cls : Value) : TS := fun _ _ H => E cls none H
section
variable {B : Base} {Δ : List Sd} {C : Cs} {σ : L2.St} {H F : Hp} {ta te : TE} {tr : TA} {tu tz : TS} {D : Ends} {s : Sd}
/-- an expression that doesn't end, or whose way out is served -/
def EvX (B : Base) (Δ : List Sd) (C : Cs) (te : TE) : Prop := ∀ σ H F, St B Δ C σ H F → ∀ Q, te σ H Q
theorem s_dropX (h : EvX B Δ C te) : WP B Δ C (tDrop te) D := fun σ H ⟨F, hs⟩ => h σ H F hs _
theorem q_dropX (h : EvX B Δ C te) : WP B Δ C (tSeq (tDrop te) tz) D := fun σ H ⟨F, hs⟩ => h σ H F hs _
theorem s_asgX {g : TG} (h : EvX B Δ C te) : WP B Δ C (tAsg te g) D := fun σ H ⟨F, hs⟩ => h σ H F hs _
theorem q_asgX {g : TG} (h : EvX B Δ C te) : WP B Δ C (tSeq (tAsg te g) tz) D := fun σ H ⟨F, hs⟩ => h σ H F hs _
theorem s_retX' (h : EvX B Δ C te) : WP B Δ C (tRet te) D := fun σ H ⟨F, hs⟩ => h σ H F hs _
theorem s_raise {E : XK} {cls : Value} (h : ∀ σ H, StE B Δ C σ H → E cls none H) : WP B Δ C (tRaise E cls) D := fun σ H hs => h σ H hs
theorem q_raise {E : XK} {cls : Value} (h : ∀ σ H, StE B Δ C σ H → E cls none H) : WP B Δ C (tSeq (tRaise E cls) tz) D := fun σ H hs => h σ H hs
/-- a promise with two results: an answer told by data, or an error of a class -/
def SpE (R : Hp → Hp → List Sd → Sd ⊕ Value → Prop) : Sp := fun vs H Q E => ∃ F ss r, Ex F H ∧ SlA F vs ss ∧ R F H ss r ∧ match r with
  | .inl s => Ret ⟨F, H, []⟩ s Q
  | .inr cls => ∀ F' H', Ext ⟨F, H, []⟩ F' H' → E cls none H'
theorem ev_callE {R : Hp → Hp → List Sd → Sd ⊕ Value → Prop} {E : L2.St → XK} {ss : List Sd} (h : EvA B Δ C tr ss) (hR : ∀ σ H F, St B Δ C σ H F → R F H ss (.inl s)) : Ev B Δ C (tCallS (SpE R) E tr) s := fun σ H F hs Q q =>
  h σ H F hs _ fun vs F1 H1 h1 e1 e1' w1 => ⟨F1, ss, .inl s, h1.fh, w1, hR σ H1 F1 h1, fun v F' H' x w => q v F' H' (h1.by x) (e1.trans x.ff) (e1'.trans x.hh) w⟩
theorem evX_callE {R : Hp → Hp → List Sd → Sd ⊕ Value → Prop} {E : L2.St → XK} {ss : List Sd} {cls : Value} (h : EvA B Δ C tr ss) (hR : ∀ σ H F, St B Δ C σ H F → R F H ss (.inr cls)) (hE : ∀ σ H, StE B Δ C σ H → E σ cls none H) : EvX B Δ C (tCallS (SpE R) E tr) := fun σ H F hs Q =>
  h σ H F hs _ fun vs F1 H1 h1 e1 e1' w1 => ⟨F1, ss, .inr cls, h1.fh, w1, hR σ H1 F1 h1, fun F' H' x => hE σ H' ⟨F', h1.by x⟩⟩
/-- such a def begins -/
theorem enterE {R : Hp → Hp → List Sd → Sd ⊕ Value → Prop} {N : List Str} {vs : List V} {Q : VK} {E : XK} {t : TS} (h : SpE R vs H Q E) (k : ∀ F ss r, Ex F H → SlA F vs ss → R F H ss r → (∀ s, r = .inl s → Ret ⟨F, H, []⟩ s Q) → (∀ cls, r = .inr cls → ∀ Δ' σ H', StE ⟨F, H, []⟩ Δ' [] σ H' → E cls none H') → ∃ ss', SlA F vs ss' ∧ WP ⟨F, H, []⟩ (ss' ++ List.replicate (N.length - ss'.length) .no) [] t D) : t D (L2.start N vs) H := by
  obtain ⟨F, ss, r, hf, ha, hr, hq⟩ := h
  obtain ⟨ss', ha', w⟩ := k F ss r hf ha hr (fun s e => by subst e; exact hq) (fun cls e Δ' σ H' ⟨F', st⟩ => by subst e; exact hq F' H' (st.ext (by simp)))
  exact w _ _ ⟨F, St.start hf ha'⟩
end
end FE

set_option Elab.async false
set_option linter.all false
set_option maxRecDepth 100000
set_option maxHeartbeats 1000000
set_option autoImplicit false
/-! own errors: the layer's words -/
namespace FG
open PySem PySem.Spec PyProof.Rows L2 FD FE
open Evl (Ex)
/-- the classes of errors -/
structure ExM where
  fe : Addr
  nw : Addr
  np : Addr
  nt : Addr
/-- s * 0, s * 1 -/
def rMulS : R2 := fun x y H Q => ∃ (s : Str) (b : Bool), x = .str s ∧ y = .int (if b then 1 else 0) ∧ Q (.str (if b then s else Str.empty)) H
theorem op_mulS {X : Cx} : OpR X (binaryOp .Mult) rMulS := by
  intro pins s σ H x y v u Q I rx ry h
  obtain ⟨i, b, rfl, rfl, q⟩ := h
  obtain ⟨t, rfl⟩ := rx
  obtain ⟨t', rfl⟩ := ry
  cases b with
  | false => exact PySem.P.mul_str_none (by decide) (by decide) ⟨.str Str.empty, H, I.tok _, ⟨_, rfl⟩, q⟩
  | true =>
    refine PySem.P.mul_str (by decide) (fun _ h => ?_) (fun _ h => ?_) ?_
    · simp at h
    · simp at h
    · exact ⟨.str i, H, I, ⟨_, rfl⟩, q⟩
/-- the way out of a call, in a try's body: whatever the slots -/
def wN (W : WX) (N : List Str) : XK := fun cls d H => ∀ σ : L2.St, σ.length = N.length → W cls d σ H
theorem passT {X : Cx} {W : WX} (tk : L2N.Takes X W) : Passes (L2N.CX X.prog X.w) X (wN W X.N) := passN tk
theorem passR {X : Cx} {E : XK} (tk : L2N.Takes X (fun cls d _ H => E cls d H)) : Passes (L2N.CX X.prog X.w) X E := L2N.passes_call tk fun _ _ _ _ h => h
theorem passN0 {X : Cx} : Passes (L2N.CX X.prog X.w) X E0 := fun _ _ _ _ _ _ _ h => by
  obtain ⟨_, _, _, _, _, _, _, _, _, _, _, _, h⟩ := h
  exact h.elim
theorem takesF {X : Cx} : L2N.Takes X (fun _ _ _ _ => False) := fun _ _ h => by
  obtain ⟨_, _, _, _, _, _, _, _, _, _, _, _, _, _, _, _, h⟩ := h
  exact h.elim
/-- try: tb, except c as (slot i): ts -/
def tTry (K : PySem.W.Frag) (c : Value) (i : Nat) (tb : WX → TS) (ts : Addr → Value → Option Addr → TS) : TS := fun D σ H => tb (wAs K c i ts (fun _ _ _ _ => False) D) D σ H
end FG

set_option Elab.async false
set_option linter.all false
set_option maxRecDepth 100000
set_option maxHeartbeats 1000000
set_option autoImplicit false
/-! the word on a caught error -/
namespace FH
open PySem PySem.Spec PyProof.Rows L2 FD FE FG
open Evl (Ex)
/-- one of the three classes, and its word -/
def wordOf (M : ExM) (D : Addr) (w : Str) : Prop := (D = M.nw ∧ w = "web value") ∨ (D = M.np ∧ w = "point value") ∨ (D = M.nt ∧ w = "turns value")
/-- what isinstance and except say of the classes -/
structure Kits (K : PySem.W.Frag) (M : ExM) : Prop where
  c1 : ExcC K M.nw
  c2 : ExcC K M.np
  c3 : ExcC K M.nt
  k11 : PySem.W.kitOne K (.ref M.nw) (.ref M.nw) = some true
  k12 : PySem.W.kitOne K (.ref M.nw) (.ref M.np) = some false
  k13 : PySem.W.kitOne K (.ref M.nw) (.ref M.nt) = some false
  k21 : PySem.W.kitOne K (.ref M.np) (.ref M.nw) = some false
  k22 : PySem.W.kitOne K (.ref M.np) (.ref M.np) = some true
  k23 : PySem.W.kitOne K (.ref M.np) (.ref M.nt) = some false
  k31 : PySem.W.kitOne K (.ref M.nt) (.ref M.nw) = some false
  k32 : PySem.W.kitOne K (.ref M.nt) (.ref M.np) = some false
  k33 : PySem.W.kitOne K (.ref M.nt) (.ref M.nt) = some true
  v1 : PySem.W.kitOne K (.ref M.nw) (.type "ValueError") = some true
  v2 : PySem.W.kitOne K (.ref M.np) (.type "ValueError") = some true
  v3 : PySem.W.kitOne K (.ref M.nt) (.type "ValueError") = some true
  e1 : PySem.W.exmOne K (.ref M.nw) (.ref M.fe) = some true
  e2 : PySem.W.exmOne K (.ref M.np) (.ref M.fe) = some true
  e3 : PySem.W.exmOne K (.ref M.nt) (.ref M.fe) = some true
/-- the promise of the def that tells the word -/
def sp_word (M : ExM) (D a : Addr) : Sp := fun vs H Q _ => vs = [.ref a] ∧ ∃ w, wordOf M D w ∧ Q (.str w) H
theorem Kits.exc {K : PySem.W.Frag} {M : ExM} (k : Kits K M) {D : Addr} {w : Str} (h : wordOf M D w) : ExcC K D := by
  rcases h with ⟨rfl, _⟩ | ⟨rfl, _⟩ | ⟨rfl, _⟩
  · exact k.c1
  · exact k.c2
  · exact k.c3
theorem Kits.exm {K : PySem.W.Frag} {M : ExM} (k : Kits K M) {D : Addr} {w : Str} (h : wordOf M D w) : PySem.W.exmOne K (.ref D) (.ref M.fe) = some true := by
  rcases h with ⟨rfl, _⟩ | ⟨rfl, _⟩ | ⟨rfl, _⟩
  · exact k.e1
  · exact k.e2
  · exact k.e3
/-- the call in the except suite -/
def tWd (M : ExM) (i : Nat) (a : Addr) (cls : Value) (d : Option Addr) : TE := fun σ H Q => σ[i]? = some (some (.ref a)) ∧ d = none ∧ ∃ D w, cls = .ref D ∧ wordOf M D w ∧ Q (.str w) H
section
variable {X : Cx} {M : ExM} {k i : Nat} {f a : Addr} {fd : FuncData} {x n : Str} {q q2 pos : Pos} {pn : List (Addr × Obj)} {oe : Obj} {cls : Value} {d : Option Addr}
theorem pe_wd (F : ∀ D w, L2N.Zn (.ref D) none oe → (∃ vs, oe.data = .fields vs) → wordOf M D w → RunsAt X.prog X.w X.K X.mg X.base k f fd ["_law_e"] (a, oe) (sp_word M D a)) (hz : L2N.Zn cls d oe) (hf : ∃ vs, oe.data = .fields vs) (hr : L2H.RoomH k X.A) (hg : Gl X x) (hm : X.mg x = some (.ref f)) (hk : PySem.W.keepIn X.K (.ref f) = true) (hb : Binds X.K fd ["_law_e"] [])
    (hv : PE (X.suite a ((a, oe) :: pn)) (.Name n q2) (tVar i)) (hdb : (x == ("__debug__" : Str)) = false := by decide) (he : starEach [.Name n q2] X.env = (false, eval (.Name n q2) X.env) :: starEach [] X.env := by rfl) (hpl : (backTo pos (starEach [] X.env)).any (·.1) = false := by rfl) :
    PE (X.suite a ((a, oe) :: pn)) (.Call (.Name x q) [.Name n q2] [] pos) (tWd M i a cls d) := by
  refine ⟨fun pins s σ H Q I h => ?_⟩
  obtain ⟨h1, rfl, D, w, rfl, hw, hq⟩ := h
  obtain ⟨vs, hvs⟩ := hf
  have hot : L2H.Hot1 (X.suite a ((a, oe) :: pn)).A (a, oe) := ⟨rfl, vs, hvs, hz.2.2 vs hvs⟩
  have hr' : L2H.RoomH k (X.suite a ((a, oe) :: pn)).A := ⟨hr.dp, hr.un⟩
  refine (pe_callP (X := X.suite a ((a, oe) :: pn)) (F D w hz ⟨vs, hvs⟩ hw) (fun vs H Q E h => by obtain ⟨rfl, _⟩ := h; rfl) hr' hot List.mem_cons_self hg hm hk hb (pa_cons hv pa_nil) hdb he hpl).run pins s σ H Q I ?_
  exact ⟨.ref a, h1, rfl, w, hw, hq⟩
end
/-- isinstance's answer of own classes, by what the classes' table says -/
theorem kit_mk {K : PySem.W.Frag} {D C : Addr} {b : Bool} (hd : PySem.W.hasDictIn K C = true) (ht : PySem.W.typeIn K (.ref C) = some (.type "type")) (hs : PySem.W.subIn K (.ref D) (.ref C) = some b) (hc : PySem.W.subIn K (.ref C) (.ref C) = some true) : PySem.W.kitOne K (.ref D) (.ref C) = some b := by
  unfold PySem.W.kitOne
  by_cases e : D = C
  · subst e
    rw [hs] at hc
    cases hc
    rw [if_pos (by simp)]
  · rw [if_neg (by simpa using e)]
    obtain ⟨cd, h1, _⟩ := PySem.W.any_some hd
    show (if ((PySem.W.clsIn K C).isSome && PySem.W.typeIn K (.ref C) == some (.type "type")) = true then PySem.W.subIn K (.ref D) (.ref C) else none) = some b
    rw [if_pos (by rw [h1, ht] <;> rfl)]
    exact hs
theorem kit_mkT {K : PySem.W.Frag} {D : Addr} (hs : PySem.W.subIn K (.ref D) (.type "ValueError") = some true) : PySem.W.kitOne K (.ref D) (.type "ValueError") = some true := by
  unfold PySem.W.kitOne
  rw [if_neg (by intro z; cases z)]
  show (if PySem.W.kitMeta "ValueError" = true then PySem.W.subIn K (.ref D) (.type "ValueError") else none) = some true
  rw [if_pos (by decide +kernel)]
  exact hs
end FH

set_option Elab.async false
set_option linter.all false
set_option maxRecDepth 100000
set_option maxHeartbeats 1000000
set_option autoImplicit false
/-! lists of whatever: rules that ask only that a value is a list -/
namespace FI
open PySem PySem.Spec L2 FD FW FE FG FH
open FZ hiding ev_lstM
open Evl (Ex)
abbrev xTupOf (K : PySem.W.Frag) : List V → Hp → VK → Prop := fun xs H Q => ∃ p ys, xs = [.ref p] ∧ ((SqL K H p ys ∧ ∀ l, H l = none → Q (.ref l) (upd H l (.tup ys))) ∨ (SqT K H p ys ∧ Q (.ref p) H))
theorem call_tupOf {X : Cx} : CallR X (.type "tuple") (xTupOf X.K) := call_tuple_of
/-- != of alike things, of data, of dicts -/
def rNeQ (K : PySem.W.Frag) : R2 := fun x y H Q => rNeSm K x y H Q ∨ rNeD K x y H Q ∨ rNeDA x y H Q
theorem op_neQ {X : Cx} (hu : X.A.units + 64 < cLine) : OpR X (compareOp .NotEq) (rNeQ X.K) := by
  intro pins s σ H x y v u Q I rx ry h
  rcases h with h | h | h
  · exact op_neSm hu pins s σ H x y v u Q I rx ry h
  · exact op_neD hu pins s σ H x y v u Q I rx ry h
  · exact op_ne_dictA (Nat.lt_of_le_of_lt (Nat.le_add_right _ 64) hu) pins s σ H x y v u Q I rx ry h
section
variable {B : Base} {Δ : List Sd} {C : Cs} {σ : L2.St} {H F : Hp} {ta tb te : TE} {tr : TA} {tu tz : TS} {D : Ends} {s s1 s2 : Sd} {K : PySem.W.Frag}
/-- a value is a list of such items -/
def AsL (B : Base) (Δ : List Sd) (C : Cs) (s : Sd) (ss : List Sd) : Prop := ∀ σ H F v, St B Δ C σ H F → SlV F v s → ∃ a xs, v = .ref a ∧ H a = some (.lst xs) ∧ SlA F xs ss
theorem asL_d {ds : List PyData} : AsL B Δ C (.d (.list ds)) (ds.map Sd.d) := fun σ H F v hs h => by
  obtain ⟨a, xs, rfl, e, r⟩ := Rep.lst_inv h
  exact ⟨a, xs, rfl, hs.fh _ _ e, r.sl⟩
theorem asL_p {ss : List Sd} : AsL B Δ C (.p (LstM ss)) ss := fun σ H F v hs h => by
  obtain ⟨a, xs, rfl, e, r⟩ := h
  exact ⟨a, xs, rfl, hs.fh _ _ e, r⟩
theorem asL_c {k : Nat} {l : Addr} {ss : List Sd} (hc : C[k]? = some (l, .lst ss)) : AsL B Δ C (.v (.ref l)) ss := fun σ H F v hs h => by
  cases h
  obtain ⟨_, o, ho, xs, rfl, r⟩ := hs.cell hc
  exact ⟨l, xs, rfl, ho, r⟩
theorem ev_lstM {ss : List Sd} (h : EvN B Δ C te (.lst ss)) : Ev B Δ C te (.p (LstM ss)) := fun σ H F hs Q q => h σ H F hs Q fun p F' H' h' e1 e2 hp => by
  obtain ⟨o, h1, h2, h3, h4⟩ := h'.frz (k := 0) rfl (h'.free' hs hp)
  obtain ⟨xs, rfl, r⟩ := h2
  exact q _ _ _ h4 (e1.trans h3) e2 ⟨p, xs, rfl, upd_same, r.mono h3⟩
theorem rvN_catA {as bs : List Sd} (h1 : AsL B Δ C s1 as) (h2 : AsL B Δ C s2 bs) (hz : as.length + bs.length ≤ 100000) : RVN B Δ C rCat s1 s2 (.lst (as ++ bs)) := fun σ H F hs x y w1 w2 Q q => by
  obtain ⟨p, xs, rfl, e, r⟩ := h1 σ H F x hs w1
  obtain ⟨p', xs', rfl, e', r'⟩ := h2 σ H F y hs w2
  exact ⟨p, p', xs, xs', rfl, rfl, e, e', Evl.sz_of (by rw [r.length, r'.length]; exact hz), q.made hs ⟨_, rfl, r.append r'⟩⟩
theorem rv_xA {ss : List Sd} {i : Int} (hl : AsL B Δ C s1 ss) (h : atI ss i = some s) : RV B Δ C (rIx K) s1 (.d (.int i)) s := rv_ix1 fun σ H F hs x y w1 w2 Q q => by
  cases w2
  obtain ⟨p, xs, rfl, e, r⟩ := hl σ H F x hs w1
  obtain ⟨v, hv, w⟩ := atI_sl r h
  exact ⟨p, xs, i, v, rfl, rfl, SqL.of e, hv, q.now hs w⟩
theorem evN_slA {tl th : TO} {ss : List Sd} {lo hi : Option Int} (hc : AsL B Δ C s1 ss) (h : Ev B Δ C te s1) (h1 : EvO B Δ C tl lo) (h2 : EvO B Δ C th hi) : EvN B Δ C (tSl (rSlL K) te tl th) (.lst (cutD ss lo hi)) := fun σ H F hs Q q =>
  h σ H F hs _ fun v F1 H1 hs1 e1 e1' w1 => h1 σ H1 F1 hs1 _ fun F2 H2 hs2 e2 e2' => h2 σ H2 F2 hs2 _ fun F3 H3 hs3 e3 e3' => by
    have w3 := SlV.mono (s := s1) (e2.trans e3) w1
    obtain ⟨p, xs, rfl, e, r⟩ := hc σ H3 F3 v hs3 w3
    refine ⟨p, xs, rfl, SqL.of e, (q.later ((e1.trans e2).trans e3) ((e1'.trans e2').trans e3')).made hs3 ⟨_, rfl, ?_⟩⟩
    unfold cutV cutD
    rw [r.length]
    exact (SlA.drop _ r).take _
theorem rc_lenA' {ss : List Sd} (hl : AsL B Δ C s1 ss) : RC B Δ C (xLen K) [s1] (.d (.int (ss.length : Nat))) := fun σ H F hs xs w Q q => by
  cases w with | cons w w' =>
    cases w'
    obtain ⟨p, xs, rfl, e, r⟩ := hl σ H F _ hs w
    exact ⟨p, xs, rfl, .inl (SqL.of e), by rw [r.length]; exact q.now hs (.int _)⟩
theorem rcN_listA {ss : List Sd} (hl : AsL B Δ C s1 ss) : RCN B Δ C (xListOf K) [s1] (.lst ss) := fun σ H F hs xs w Q q => by
  cases w with | cons w w' =>
    cases w'
    obtain ⟨p, xs, rfl, e, r⟩ := hl σ H F _ hs w
    exact ⟨p, xs, rfl, .inl (SqL.of e), q.made hs ⟨_, rfl, r⟩⟩
theorem rc_tupD {ds : List PyData} : RC B Δ C (xTupOf K) [.d (.list ds)] (.d (.tuple ds)) := fun σ H F hs xs w Q q => by
  cases w with | cons w w' =>
    cases w'
    obtain ⟨p, xs, rfl, e, r⟩ := Rep.lst_inv w
    exact ⟨p, xs, rfl, .inl ⟨SqL.of (hs.fh _ _ e), q.made hs fun l ex => .tup upd_same (RepA.mono ex _ _ r)⟩⟩
theorem rc_isiA {ss : List Sd} (hl : AsL B Δ C s1 ss) : RC B Δ C (rIsi K) [s1, .v (.ty "list")] (.d (.bool true)) := fun σ H F hs xs w Q q => by
  cases w with | cons w w' => cases w' with | cons w2 w3 =>
    cases w3; cases w2
    obtain ⟨p, xs, rfl, e, r⟩ := hl σ H F _ hs w
    exact ⟨_, _, _, _, true, rfl, .ty _, .base (.lst e), kit_ty kit_ll, q.now hs (.bl _)⟩
theorem kit_dl : kitB "dict" "list" = some false := by decide +kernel
theorem rc_isiDk {kvs : List (Key × Sd)} : RC B Δ C (rIsi K) [.p (DkM kvs), .v (.ty "list")] (.d (.bool false)) := fun σ H F hs xs w Q q => by
  cases w with | cons w w' => cases w' with | cons w2 w3 =>
    cases w3; cases w2
    obtain ⟨p, vs, rfl, e, r⟩ := w
    exact ⟨_, _, _, _, false, rfl, .ty _, .base (.dK (hs.fh _ _ e)), kit_ty kit_dl, q.now hs (.bl _)⟩
end

/-! ### data, or an empty dict -/
inductive OV
  | d (x : PyData)
  | dct
def sOV : OV → Sd
  | .d x => .d x
  | .dct => .p (DkM [])
def OV.isL : OV → Bool
  | .d (.list _) => true
  | _ => false
def kitL : PyData → Bool
  | .list _ => true
  | _ => false
theorem kit_nl : kitB "NoneType" "list" = some false := by decide +kernel
theorem kit_bl : kitB "bool" "list" = some false := by decide +kernel
theorem kit_il : kitB "int" "list" = some false := by decide +kernel
theorem kit_sl : kitB "str" "list" = some false := by decide +kernel
theorem kit_tl : kitB "tuple" "list" = some false := by decide +kernel
theorem kitL_ok (d : PyData) : kitB (tyD d) "list" = some (kitL d) := by
  cases d
  · exact kit_nl
  · exact kit_bl
  · exact kit_il
  · exact kit_sl
  · exact kit_ll
  · exact kit_tl
  · exact kit_dl
section
variable {B : Base} {Δ : List Sd} {C : Cs} {σ : L2.St} {H F : Hp} {ta tb te : TE} {tr : TA} {tu tz : TS} {D : Ends} {s s1 s2 : Sd} {K : PySem.W.Frag}
/-- what a slot's word hides is told -/
theorem wp_ex {α : Type} {m : Mono} (i : Nat) (P : α → Prop) (f : α → Sd) (hi : Δ[i]? = some (.p m)) (hm : ∀ F v, m.φ F v → ∃ a, P a ∧ SlV F v (f a)) (k : ∀ a, P a → WP B (Δ.set i (f a)) C tu D) : WP B Δ C tu D := fun σ H ⟨F, hs⟩ => by
  obtain ⟨o, ho, w⟩ := hs.sl.get hi
  obtain ⟨v, rfl, w⟩ := w.some rfl
  obtain ⟨a, pa, wa⟩ := hm F v w
  exact k a pa σ H ⟨F, hs.slots (FR.Sl.reset hs.sl ho (show SlO F (some v) (f a) from wa))⟩
/-- a list of data of at most so many items -/
def ListM (m : Nat) : Mono := ⟨fun F v => ∃ ds, Rep F v (.list ds) ∧ ds.length ≤ m, fun F F' v e ⟨ds, h1, h2⟩ => ⟨ds, Rep.mono e _ _ h1, h2⟩⟩
theorem ev_to (h : Ev B Δ C te s) {m : Mono} (k : ∀ F v, SlV F v s → m.φ F v) : Ev B Δ C te (.p m) := fun σ H F hs Q q => h σ H F hs Q fun v F' H' a b c w => q v F' H' a b c (k F' v w)
theorem ev_dM {ds : List PyData} {m : Nat} (h : Ev B Δ C te (.d (.list ds))) (hl : ds.length ≤ m) : Ev B Δ C te (.p (ListM m)) := ev_to h fun _ _ w => ⟨ds, w, hl⟩
theorem ev_catM {m k : Nat} (h1 : Ev B Δ C ta (.p (ListM m))) (h2 : Ev B Δ C tb (.p (ListM k))) (hz : m + k ≤ 100000 := by decide) : Ev B Δ C (tOp rCat ta tb) (.p (ListM (m + k))) := fun σ H F hs Q q =>
  h1 σ H F hs _ fun v F1 H1 hs1 e1 e1' ⟨ds, w1, l1⟩ => h2 σ H1 F1 hs1 _ fun u F2 H2 hs2 e2 e2' ⟨es, w2, l2⟩ =>
    rv_cat (Δ := Δ) (by omega) σ H2 F2 hs2 v u (Rep.mono e2 _ _ w1) w2 Q (PostN.of hs2 fun v F' H' a b c w => q v F' H' a ((e1.trans e2).trans b) ((e1'.trans e2').trans c) ⟨_, w, by simp; omega⟩)
theorem ev_cutM {m : Nat} {tl th : TO} {lo hi : Option Int} (h : Ev B Δ C te (.p (ListM m))) (h1 : EvO B Δ C tl lo) (h2 : EvO B Δ C th hi) : Ev B Δ C (tSl (rSlL K) te tl th) (.p (ListM m)) := fun σ H F hs Q q =>
  h σ H F hs _ fun v F1 H1 hs1 e1 e1' ⟨ds, w1, l1⟩ => h1 σ H1 F1 hs1 _ fun F2 H2 hs2 e2 e2' => h2 σ H2 F2 hs2 _ fun F3 H3 hs3 e3 e3' => by
    obtain ⟨p, xs, rfl, e, r⟩ := Rep.lst_inv (Rep.mono (e2.trans e3) _ _ w1)
    refine ⟨p, xs, rfl, SqL.of (hs3.fh _ _ e), (PostN.of (ds := FD.cutD ds lo hi) hs3 fun v F' H' a b c w => q v F' H' a (((e1.trans e2).trans e3).trans b) (((e1'.trans e2').trans e3').trans c) ⟨_, w, ?_⟩).made hs3 ⟨_, rfl, (r.cut lo hi).sl⟩⟩
    unfold FD.cutD; rw [List.length_take, List.length_drop]; omega
theorem ev_tupM {m : Nat} (h : Ev B Δ C te (.p (ListM m))) {M' : Mono} (k : ∀ F v ds, Rep F v (.tuple ds) → M'.φ F v) : Ev B Δ C (tCB (xTupOf K) (tCons te tNil)) (.p M') := fun σ H F hs Q q =>
  h σ H F hs _ fun v F1 H1 hs1 e1 e1' ⟨ds, w1, l1⟩ => rc_tupD (ds := ds) σ H1 F1 hs1 [v] (.cons w1 .nil) Q fun v F' H' a b c w => q v F' H' a (e1.trans b) (e1'.trans c) (k _ _ _ w)
/-- an item of an odd list -/
def plainO : OV → Bool
  | .dct => true
  | .d (.list _) => true
  | .d (.tuple _) => true
  | .d .none => true
  | _ => false
theorem plainO_V {F : Hp} {v : V} {o : OV} (h : SlV F v (sOV o)) (p : plainO o = true) : plainV v = true := by
  cases o with
  | dct => obtain ⟨a, vs, rfl, _⟩ := h; rfl
  | d x =>
    have h : Rep F v x := h
    cases h <;> first | rfl | cases p
def okO (o : OV) : Prop := plainO o = true ∧ ∀ ds, o = .d (.list ds) → ds.length ≤ 1000
def OddM : Mono := ⟨fun F v => ∃ o, okO o ∧ SlV F v (sOV o), fun F F' v e ⟨o, h1, h2⟩ => ⟨o, h1, SlV.mono e h2⟩⟩
theorem odd_l {m : Nat} (h : Ev B Δ C te (.p (ListM m))) (hm : m ≤ 1000 := by decide) : Ev B Δ C te (.p OddM) := ev_to h fun F v ⟨ds, w, l⟩ => ⟨.d (.list ds), ⟨rfl, fun ds' e => (by cases e; exact Nat.le_trans l hm)⟩, w⟩
theorem odd_d {d : PyData} (h : Ev B Δ C te (.d d)) (hd : kitL d = false) (hp : plainO (.d d) = true) : Ev B Δ C te (.p OddM) := ev_to h fun F v w => ⟨.d d, ⟨hp, fun ds' e => (by cases e; cases hd)⟩, w⟩
theorem odd_t {m : Nat} (h : Ev B Δ C te (.p (ListM m))) : Ev B Δ C (tCB (xTupOf K) (tCons te tNil)) (.p OddM) := ev_tupM h fun F v ds w => ⟨.d (.tuple ds), ⟨rfl, fun ds' e => (by cases e)⟩, w⟩
theorem odd_k : Ev B Δ C tDNewK (.p OddM) := ev_to (ev_dk evN_dnewK) fun F v w => ⟨.dct, ⟨rfl, fun ds' e => (by cases e)⟩, w⟩
def AnyL (k : Nat) : Mono := ⟨fun F v => ∃ os : List OV, (∀ o ∈ os, okO o) ∧ os.length = k ∧ (LstM (os.map sOV)).φ F v, fun F F' v e ⟨os, h1, h2, h3⟩ => ⟨os, h1, h2, (LstM _).mono _ _ _ e h3⟩⟩
theorem sl_odd {F : Hp} : ∀ (k : Nat) {xs : List V}, SlA F xs (List.replicate k (.p OddM)) → ∃ os : List OV, (∀ o ∈ os, okO o) ∧ os.length = k ∧ SlA F xs (os.map sOV)
  | 0, _, .nil => ⟨[], fun _ h => (by cases h), rfl, .nil⟩
  | k + 1, _, .cons ⟨o, h1, h2⟩ t => by
    obtain ⟨os, e1, e2, e3⟩ := sl_odd k t
    refine ⟨o :: os, fun x hx => ?_, by simp [e2], .cons h2 e3⟩
    rcases List.mem_cons.mp hx with rfl | hx
    · exact h1
    · exact e1 x hx
theorem ev_anyL {k : Nat} (h : EvN B Δ C te (.lst (List.replicate k (.p OddM)))) : Ev B Δ C te (.p (AnyL k)) := ev_to (ev_lstM h) fun F v ⟨a, xs, e1, e2, r⟩ => by
  obtain ⟨os, h1, h2, h3⟩ := sl_odd k r
  exact ⟨os, h1, h2, a, xs, e1, e2, h3⟩
theorem ev_catL {m k : Nat} (h1 : Ev B Δ C ta (.p (AnyL m))) (h2 : Ev B Δ C tb (.p (AnyL k))) (hz : m + k ≤ 100000 := by decide) : Ev B Δ C (tOp rCat ta tb) (.p (AnyL (m + k))) := fun σ H F hs Q q =>
  h1 σ H F hs _ fun v F1 H1 hs1 e1 e1' ⟨os, w1, l1, r1⟩ => h2 σ H1 F1 hs1 _ fun u F2 H2 hs2 e2 e2' ⟨os', w2, l2, r2⟩ =>
    rvN_catA (Δ := Δ) asL_p asL_p (by rw [List.length_map, List.length_map]; omega) σ H2 F2 hs2 v u ((LstM _).mono _ _ _ e2 r1) r2 Q fun p F' H' h' x1 x2 hp => by
      obtain ⟨o, k1, k2, k3, k4⟩ := h'.frz (k := 0) rfl (h'.free' hs2 hp)
      obtain ⟨xs, rfl, r⟩ := k2
      refine q _ _ _ k4 (((e1.trans e2).trans x1).trans k3) ((e1'.trans e2').trans x2) ⟨os ++ os', fun o ho => ?_, by simp; omega, p, xs, rfl, upd_same, ?_⟩
      · rcases List.mem_append.mp ho with ho | ho
        · exact w1 o ho
        · exact w2 o ho
      · rw [List.map_append]; exact r.mono k3
/-- a slot's word made weaker -/
theorem nx_wk {P : L2.St → Hp → Prop} (i : Nat) (s1 s2 : Sd) (hi : Δ[i]? = some s1) (hf : s1.full = true) (k : ∀ F v, SlV F v s1 → SlV F v s2) (h : Nx B (Δ.set i s2) C P) : Nx B Δ C P := fun σ H ⟨F, hs⟩ => by
  obtain ⟨o, ho, w⟩ := hs.sl.get hi
  obtain ⟨v, rfl, w⟩ := w.some hf
  exact h σ H ⟨F, hs.slots (FR.Sl.reset hs.sl ho (show SlO F (some v) s2 from k F v w))⟩
theorem ev_toB (h : Ev B Δ C te s) {m : Mono} (k : ∀ F v, Ex B.F F → SlV F v s → m.φ F v) : Ev B Δ C te (.p m) := fun σ H F hs Q q => h σ H F hs Q fun v F' H' a b c w => q v F' H' a b c (k F' v a.ff w)
/-- the items of a list that stands, each as it is -/
theorem sl_vals {F : Hp} : ∀ xs : List V, SlA F xs (xs.map Sd.v)
  | [] => .nil
  | _ :: xs => .cons rfl (sl_vals xs)
theorem asL_b {a : Addr} {xs : List V} (h : B.F a = some (.lst xs)) : AsL B Δ C (.v (.ref a)) (xs.map Sd.v) := fun σ H F v hs hv => by
  cases hv
  exact ⟨a, xs, rfl, hs.fh _ _ (hs.ff _ _ h), sl_vals xs⟩
theorem vals_sl {F : Hp} : ∀ {xs ys : List V}, SlA F ys (xs.map Sd.v) → ys = xs
  | [], _, .nil => rfl
  | _ :: _, _, .cons h t => by cases h; rw [vals_sl t]
end
end FI

set_option Elab.async false
set_option linter.all false
set_option maxRecDepth 100000
set_option maxHeartbeats 1000000
set_option autoImplicit false
/-! rules for a dict of the module's top, len(set(..)), three comparisons -/
namespace FK
open PySem PySem.Spec PyProof.Rows
open L2 hiding St
section
variable {X : Cx} {d : Addr} {es : Array DictEntry} {n : Nat}
def rNotInKd (K : PySem.W.Frag) (d : Addr) : R2 := fun x y H Q => ∃ (z : Str) (r : Option Value), x = .str z ∧ y = .ref d ∧ PySem.W.nsIn K d z = some r ∧ Q (.bl (!r.isSome)) H
def rItemKd (K : PySem.W.Frag) (d : Addr) : R2 := fun x y H Q => ∃ (z : Str) (u0 : Value) (v0 : V), x = .ref d ∧ y = .str z ∧ PySem.W.nsIn K d z = some (some u0) ∧ RelV v0 u0 ∧ Q v0 H
theorem op_notInKd (D : KDict X.K X.w d es n) : OpR X (compareOp .NotIn) (rNotInKd X.K d) := op_notIn_kd D
theorem ix_kd (D : KDict X.K X.w d es n) : IxR X (rItemKd X.K d) := by
  intro value slice pins s σ H x y v u Q I rx ry h hs
  obtain ⟨z, u0, v0, rfl, rfl, e, r, q⟩ := h
  cases rx
  obtain ⟨t, rfl⟩ := ry
  have hm := PySem.W.mapOf_K (prog := X.prog) (w := X.w) I.kIn D.at_ D.lit
  exact tail_any hm.typeIs slot_dict_getitem.lookup (wpAny_getItem_of (PySem.strKind_is X.prog X.w z t) hm (PySem.W.find_K D.at_ e) ⟨v0, H, I.tok _, r, q⟩) hs
/-- how many different ones -/
def many (ns : List Int) : Nat := (firstMet (fun i => ns.getD i 0) ns.length).length
def tLenSet (K : PySem.W.Frag) (ta : TE) : TE := fun σ H Q => ta σ H fun x H1 => ∃ (l : Addr) (ns : List Int), x = V.ref l ∧ SqL K H1 l (ns.map V.int) ∧ ns.length < 64 ∧ Q (.int (many ns)) H1
theorem firstMet_le (f : Nat → Int) : ∀ i, (firstMet f i).length ≤ i
  | 0 => Nat.le_refl _
  | i + 1 => by
    rw [firstMet_succ]
    have := firstMet_le f i
    unfold step_dedup
    split
    · omega
    · rw [List.length_append]; simp; omega
theorem pe_lenSet {a : Expr} {ta : TE} {p p2 q pos : Pos} (hc : X.calm = true) (hg : Gl X "len") (hm : X.mg "len" = none) (hg2 : Gl X "set") (hm2 : X.mg "set" = none) (ha : PE X a ta)
    (na : starEach [a] X.env = (false, eval a X.env) :: starEach [] X.env := by rfl) : PE X (.Call (.Name "len" p) [.Call (.Name "set" p2) [a] [] q] [] pos) (tLenSet X.K ta) := by
  refine ⟨fun pins s σ H Q I h => ?_⟩
  refine Call_ (ld_blt I hg hm PySem.boot_len ?_)
  refine PyProof.Rows.callWith_builtin1 (PyProof.Rows.args_cons ?_ rfl) rfl rfl
  refine Call_ (ld_blt I hg2 hm2 PyProof.Rows.boot_set ?_)
  refine PyProof.Rows.callWith_type1 (PyProof.Rows.args_cons (thn (ha.run pins s σ H _ I h) fun v s1 ⟨x, H1, I1, r1, q1⟩ => PyProof.Rows.args_nil ?_) na) na rfl
  obtain ⟨l, ns, rfl, hq, h1, q1⟩ := q1
  cases r1
  obtain ⟨its, r, pl, hz⟩ := I1.list hq
  have hl : its.toArray.size = ns.length := by rw [List.size_toArray, ← r.length, List.length_map]
  have hle := firstMet_le (fun i => ns.getD i 0) ns.length
  refine call_set_list (I1.ok.hd hc) pl.isList (ns := ns) (by simpa using r.ints) (by unfold scanBound; omega) fun h' tk hS hk => ?_
  rw [hl] at hS
  refine PyProof.Rows.args_nil ?_
  obtain ⟨o, es, ep, t, ho, hex, hd, _, _, _, hf, hn⟩ := hS
  have I2 : Inv X pins σ H1 { s1 with heap := h', toks := tk } := I1.kept fun b o e => hk b o (Heap.lt_size e) e
  refine call_len_set ho hex hd hf (by rw [hn] <;> omega) ⟨.int (many ns), H1, I2.tok _, ⟨_, by rw [hn]; rfl⟩, q1⟩
/-- a op b op c op d, a test -/
def tChain3 (r r' r'' : R2) (ta tb tc td : TE) : TE := fun σ H Q => ta σ H fun x H1 => tb σ H1 fun y H2 => r x y H2 fun z H3 => ∃ k, z = .bl k ∧
  (if k = true then tc σ H3 fun w H4 => r' y w H4 fun z' H5 => ∃ k', z' = .bl k' ∧ (if k' = true then td σ H5 fun u H6 => r'' w u H6 Q else Q (.bl false) H5) else Q (.bl false) H3)
variable {ta tb tc td : TE} {a b c d' : Expr} {pos : Pos}
theorem pt_chain3 {op op' op'' : CmpOp} {r r' r'' : R2} (ho : OpR X (compareOp op) r) (ho' : OpR X (compareOp op') r') (ho'' : OpR X (compareOp op'') r'') (ha : PE X a ta) (hb : PE X b tb) (hc : PE X c tc) (hd : PE X d' td)
    (hm : lastMarks [op, op', op''] [b, c, d'] = false := by with_unfolding_all rfl) : PT X (.Compare a [op, op', op''] [b, c, d'] pos) (tTest (tChain3 r r' r'' ta tb tc td)) := by
  refine ⟨fun pins s σ H Q I h => ?_⟩
  refine isTrue_chain (thn (ha.run pins s σ H _ I h) fun v s1 ⟨x, H1, I1, r1, q1⟩ => test_link (thn (hb.run pins s1 σ H1 _ I1 q1) fun u s2 ⟨y, H2, I2, r2, q2⟩ =>
    thn (ho pins s2 σ H2 x y v u _ I2 r1 r2 q2) fun d s3 ⟨z, H3, I3, r3, k, e, q3⟩ => ?_)) hm
  subst e
  cases r3
  refine wpAny_truthy_bool ?_
  cases k with
  | false =>
    obtain ⟨k', e', q'⟩ := q3
    cases e'
    exact ite_ff ⟨H3, I3, q'⟩
  | true =>
    refine ite_tt (test_link (thn (hc.run pins s3 σ H3 _ I3 q3) fun w' s4 ⟨z', H4, I4, r4, q4⟩ => thn (ho' pins s4 σ H4 y z' u w' _ I4 r2 r4 q4) fun d' s5 ⟨z2, H5, I5, r5, k2, e2, q5⟩ => ?_))
    subst e2
    cases r5
    refine wpAny_truthy_bool ?_
    cases k2 with
    | false =>
      obtain ⟨k', e', q'⟩ := q5
      cases e'
      exact ite_ff ⟨H5, I5, q'⟩
    | true =>
      refine ite_tt (test_last (thn (hd.run pins s5 σ H5 _ I5 q5) fun w2 s6 ⟨z6, H6, I6, r6, q6⟩ => thn (ho'' pins s6 σ H6 z' z6 w' w2 _ I6 r4 r6 q6) fun d6 s7 ⟨z7, H7, I7, r7, k7, e7, q7⟩ => ?_))
      subst e7
      cases r7
      exact wpAny_truthy_bool ⟨H7, I7, q7⟩
end
abbrev xInsert : V → List V → Hp → VK → Prop := fun x vs H Q => ∃ (l : Addr) (xs : List V) (i : Int) (y : V), x = .ref l ∧ vs = [.int i, y] ∧ H l = some (.lst xs) ∧ xs.length < sizeLine ∧ 0 ≤ i ∧ i < 2 ^ 63 ∧
    Q .non (upd H l (.lst (xs.take i.toNat ++ [y] ++ xs.drop i.toNat)))
end FK

set_option Elab.async false
set_option linter.all false
set_option maxRecDepth 100000
set_option maxHeartbeats 1000000
set_option autoImplicit false
/-! knots at work: pairs_of, heads_fit, row_fits, is_knot -/
namespace FK
open PySem L2 FD FW FX FQ FI
open Evl (Ex)
abbrev dIs (is : List Int) : PyData := .list (is.map .int)
abbrev dIss (rs : List (List Int)) : PyData := .list (rs.map dIs)
abbrev dPs (ps : List PI2) : PyData := .list (ps.map dP)
theorem faith_is : Faith dIs := faith_int.list
theorem faith_iss : Faith dIss := faith_is.list
theorem faith_p : Faith dP := faith_int.tup2
theorem faith_ps : Faith dPs := faith_p.list
theorem shp_is (is : List Int) : Shp 2 (dIs is) := Shp.map (f := PyData.int) Shp.int is
theorem shp_iss (rs : List (List Int)) : Shp 3 (dIss rs) := Shp.map (f := dIs) shp_is rs
theorem shp_p (p : PI2) : Shp 2 (dP p) := Shp.tuple fun d hd => by
  rcases List.mem_cons.mp hd with rfl | hd
  · exact Shp.int _
  · rw [List.mem_singleton.mp hd]; exact Shp.int _
theorem shp_ps (ps : List PI2) : Shp 3 (dPs ps) := Shp.map (f := dP) shp_p ps
def five : Str := "five"
def three : Str := "three"
/-- the kinds that the laws ask of -/
def kinds5 : List Str := ["five", "three", "four", "", "Five"]
/-! ### the pairs of ends -/
def fanAt (kind : Str) (hs : List Int) (k : Nat) : List PI2 :=
  if kind = five then (hs.drop (k + 1)).map fun o => (hs.getD k 0, o) else if k < 3 then (hs.drop 3).map fun o => (hs.getD k 0, o) else []
def pairsL (kind : Str) (hs : List Int) : Nat → List PI2
  | 0 => []
  | k + 1 => pairsL kind hs k ++ fanAt kind hs k
theorem fanAt_len (kind : Str) (hs : List Int) (k : Nat) : (fanAt kind hs k).length ≤ hs.length := by
  unfold fanAt
  split
  · rw [List.length_map, List.length_drop]; omega
  · split
    · rw [List.length_map, List.length_drop]; omega
    · exact Nat.zero_le _
theorem pairsL_len (kind : Str) (hs : List Int) : ∀ k, (pairsL kind hs k).length ≤ k * hs.length
  | 0 => Nat.zero_le _
  | k + 1 => by
    show (pairsL kind hs k ++ fanAt kind hs k).length ≤ _
    rw [List.length_append, Nat.succ_mul]
    exact Nat.add_le_add (pairsL_len kind hs k) (fanAt_len kind hs k)
/-! ### a knot looked at, in plain Lean -/
def inN (n : Nat) (i : Int) : Bool := decide (0 ≤ i) && decide (i < (n : Int))
def sizeK (kind : Str) : Nat := if kind = five then 5 else 6
def ordB (kind : Str) (hs : List Int) : Bool := if kind = five then decide (hs = sortI hs) else
  decide (hs.getD 0 0 = (sortI hs).getD 0 0) && (decide (hs.take 3 = sortI (hs.take 3)) && decide (hs.drop 3 = sortI (hs.drop 3)))
def headsB (n : Nat) (kind : Str) (hs : List Int) : Bool :=
  (decide (kind = five) || decide (kind = three)) && (decide (hs.length = sizeK kind) && (decide hs.Nodup && (hs.all (inN n) && ordB kind hs)))
def tiedB (near : List (List Nat)) (a b : Int) : Bool := decide (b.toNat ∈ near.getD a.toNat [])
def rowB (n : Nat) (near : List (List Nat)) (row : List Int) (e : PI2) : Bool :=
  decide (2 ≤ row.length) && (decide ((row.getD 0 0, row.getD (row.length - 1) 0) = e) && (row.all (inN n) && (List.range (row.length - 1)).all fun i => tiedB near (row.getD i 0) (row.getD (i + 1) 0)))
/-- the points between -/
def midL (row : List Int) : List Int := (row.drop 1).take (row.length - 2)
def goI : List Int → List Int → Option (List Int)
  | [], m => some m
  | p :: ps, m => if p ∈ m then none else goI ps (m ++ [p])
def goR (chk : List Int → PI2 → Bool) : List (List Int × PI2) → List Int → Bool
  | [], _ => true
  | (row, e) :: r, m => chk row e && match goI (midL row) m with
    | none => false
    | some m' => goR chk r m'
def knotB (n : Nat) (near : List (List Nat)) (kind : Str) (hs : List Int) (rows : List (List Int)) : Bool :=
  headsB n kind hs && (decide (rows.length = (pairsL kind hs hs.length).length) && goR (rowB n near) (rows.zip (pairsL kind hs hs.length)) hs)
/-! ### promises -/
structure KSz (K : PySem.W.Frag) (d : Addr) : Prop where
  n5 : ∃ t, PySem.W.nsIn K d "five" = some (some (.int 5 t))
  n3 : ∃ t, PySem.W.nsIn K d "three" = some (some (.int 6 t))
  n4 : PySem.W.nsIn K d "four" = some none
  n0 : PySem.W.nsIn K d "" = some none
  nF : PySem.W.nsIn K d "Five" = some none
def R_pairs : Hp → Hp → List Sd → Sd → Prop := fun _ _ ss s => ∃ kind hs, ss = [.d (.str kind), .d (dIs hs)] ∧ hs.length ≤ 100 ∧ s = .d (dPs (pairsL kind hs hs.length))
def sp_pairs_of (K : PySem.W.Frag) (C : Addr) : Sp := SpD R_pairs
def R_heads (C : Addr) : Hp → Hp → List Sd → Sd → Prop := fun _ _ ss s => ∃ n near kind hs, ss = [.p (WebM C n near), .d (.str kind), .d (dIs hs)] ∧ near.length = n ∧ kind ∈ kinds5 ∧ hs.length ≤ 60 ∧ s = .d (.bool (headsB n kind hs))
def sp_heads_fit (K : PySem.W.Frag) (C : Addr) : Sp := SpD (R_heads C)
def R_row (C : Addr) : Hp → Hp → List Sd → Sd → Prop := fun _ _ ss s => ∃ n near row e, ss = [.p (WebM C n near), .d (dIs row), .d (dP e)] ∧ near.length = n ∧ row.length ≤ 60 ∧ s = .d (.bool (rowB n near row e))
def sp_row_fits (K : PySem.W.Frag) (C : Addr) : Sp := SpD (R_row C)
def R_is_knot (C : Addr) : Hp → Hp → List Sd → Sd → Prop := fun _ _ ss s => ∃ n near kind hs rows, ss = [.p (WebM C n near), .d (.tuple [.str kind, dIs hs, dIss rows])] ∧ near.length = n ∧ kind ∈ kinds5 ∧ hs.length ≤ 60 ∧ rows.length ≤ 60 ∧ (∀ r ∈ rows, r.length ≤ 60) ∧ s = .d (.bool (knotB n near kind hs rows))
def sp_is_knot (K : PySem.W.Frag) (C : Addr) : Sp := SpD (R_is_knot C)
def N_pairs_of : List Str := ["kind", "heads", "found", "at", "other"]
def t_pairs_of (K : PySem.W.Frag) (C : Addr) : TS :=
  (tSeq (tAsg (tLst tNil) (gName 2))
  (tSeq (tFor (iRng1 (tCons (tCB (xLen K) (tCons (tVar 1) tNil)) tNil)) (gName 3) (tIfS (tTest (tOp rEq (tVar 0) (tC (.str "five")))) (tAsg (tOp rCat (tVar 2) (tLc (iList K (tSl (rSlL K) (tVar 1) (tPart (tOp (rI0 fun i j => .int (i + j)) (tVar 3) (tC (.int 1)))) tNoPart)) (gName 4) tYes (tTup (tCons (tOp (rIx K) (tVar 1) (tVar 3)) (tCons (tVar 4) tNil))) [4])) (gName 2)) (tIfS (tTest (tOp (rI0 fun i j => .bl (decide (i < j))) (tVar 3) (tC (.int 3)))) (tAsg (tOp rCat (tVar 2) (tLc (iList K (tSl (rSlL K) (tVar 1) (tPart (tC (.int 3))) tNoPart)) (gName 4) tYes (tTup (tCons (tOp (rIx K) (tVar 1) (tVar 3)) (tCons (tVar 4) tNil))) [4])) (gName 2)) tNext)))
  (tRet (tVar 2))))
def N_heads_fit : List Str := ["web", "kind", "heads", "point"]
def t_heads_fit (K : PySem.W.Frag) (C : Addr) (dk_SIZES : Addr) : TS :=
  (tSeq (tIfS (tOr (tTest (tOp (FK.rNotInKd K dk_SIZES) (tVar 1) (tC (.ref dk_SIZES)))) (tOr (tTest (tOp rNe (tCB (xLen K) (tCons (tVar 2) tNil)) (tOp (FK.rItemKd K dk_SIZES) (tC (.ref dk_SIZES)) (tVar 1)))) (tTest (tOp rNe (FK.tLenSet K (tVar 2)) (tCB (xLen K) (tCons (tVar 2) tNil)))))) (tRet (tC (.bl false))) tNext)
  (tSeq (tFor (iList K (tVar 2)) (gName 3) (tIfS (tNot (tB (tMeth C "has" (sp_Web_has K C) [] E0 (tVar 0) (tCons (tVar 3) tNil)))) (tRet (tC (.bl false))) tNext))
  (tSeq (tIfS (tTest (tOp rEq (tVar 1) (tC (.str "five")))) (tRet (tOp (rEqD K) (tVar 2) (tCB (rSortedI K) (tCons (tVar 2) tNil)))) tNext)
  (tRet (tAndV (tOp rEq (tOp (rIx K) (tVar 2) (tC (.int 0))) (tCB (rMin K) (tCons (tVar 2) tNil))) (tAndV (tOp (rEqD K) (tSl (rSlL K) (tVar 2) tNoPart (tPart (tC (.int 3)))) (tCB (rSortedI K) (tCons (tSl (rSlL K) (tVar 2) tNoPart (tPart (tC (.int 3)))) tNil))) (tOp (rEqD K) (tSl (rSlL K) (tVar 2) (tPart (tC (.int 3))) tNoPart) (tCB (rSortedI K) (tCons (tSl (rSlL K) (tVar 2) (tPart (tC (.int 3))) tNoPart) tNil)))))))))
def N_row_fits : List Str := ["web", "row", "ends", "point", "at"]
def t_row_fits (K : PySem.W.Frag) (C : Addr) : TS :=
  (tSeq (tIfS (tOr (tTest (tOp (rI0 fun i j => .bl (decide (i < j))) (tCB (xLen K) (tCons (tVar 1) tNil)) (tC (.int 2)))) (tTest (tOp (rNeD K) (tTup (tCons (tOp (rIx K) (tVar 1) (tC (.int 0))) (tCons (tOp (rIx K) (tVar 1) (tUn (rU fun i => .int (-i)) (tC (.int 1)))) tNil))) (tVar 2)))) (tRet (tC (.bl false))) tNext)
  (tSeq (tFor (iList K (tVar 1)) (gName 3) (tIfS (tNot (tB (tMeth C "has" (sp_Web_has K C) [] E0 (tVar 0) (tCons (tVar 3) tNil)))) (tRet (tC (.bl false))) tNext))
  (tSeq (tFor (iRng2 (tCons (tC (.int 1)) (tCons (tCB (xLen K) (tCons (tVar 1) tNil)) tNil))) (gName 4) (tIfS (tNot (tB (tMeth C "tied" (sp_Web_tied K C) [] E0 (tVar 0) (tCons (tOp (rIx K) (tVar 1) (tOp (rI0 fun i j => .int (i - j)) (tVar 4) (tC (.int 1)))) (tCons (tOp (rIx K) (tVar 1) (tVar 4)) tNil))))) (tRet (tC (.bl false))) tNext))
  (tRet (tC (.bl true))))))
def N_is_knot : List Str := ["web", "found", "kind", "heads", "rows", "ends", "met", "point", "at"]
def t_is_knot (K : PySem.W.Frag) (C : Addr) : TS :=
  (tSeq (tAsg (tVar 1) (gTup K 3 (gCons (gName 2) (gCons (gName 3) (gCons (gName 4) gNil)))))
  (tSeq (tIfS (tNot (tB (tCall (sp_heads_fit K C) [] E0 (tCons (tVar 0) (tCons (tVar 2) (tCons (tVar 3) tNil)))))) (tRet (tC (.bl false))) tNext)
  (tSeq (tAsg (tCall (sp_pairs_of K C) [] E0 (tCons (tVar 2) (tCons (tVar 3) tNil))) (gName 5))
  (tSeq (tIfS (tTest (tOp rNe (tCB (xLen K) (tCons (tVar 4) tNil)) (tCB (xLen K) (tCons (tVar 5) tNil)))) (tRet (tC (.bl false))) tNext)
  (tSeq (tAsg tDNewK (gName 6))
  (tSeq (tFor (iList K (tVar 3)) (gName 7) (sDPut (tVar 6) (tVar 7) (tC (.bl true))))
  (tSeq (tFor (iRng1 (tCons (tCB (xLen K) (tCons (tVar 4) tNil)) tNil)) (gName 8) (tSeq (tIfS (tNot (tB (tCall (sp_row_fits K C) [] E0 (tCons (tVar 0) (tCons (tOp (rIx K) (tVar 4) (tVar 8)) (tCons (tOp (rIx K) (tVar 5) (tVar 8)) tNil)))))) (tRet (tC (.bl false))) tNext)
  (tFor (iList K (tSl (rSlL K) (tOp (rIx K) (tVar 4) (tVar 8)) (tPart (tC (.int 1))) (tPart (tUn (rU fun i => .int (-i)) (tC (.int 1)))))) (gName 7) (tSeq (tIfS (tB (tDIn (tVar 7) (tVar 6))) (tRet (tC (.bl false))) tNext)
  (sDPut (tVar 6) (tVar 7) (tC (.bl true)))))))
  (tRet (tC (.bl true))))))))))
/-! ### how many different ones -/
theorem many_len : ∀ (f : Nat → Int) (k : Nat), (PyProof.Rows.firstMet f k).length ≤ k := firstMet_le
theorem many_mem (f : Nat → Int) : ∀ k x, x ∈ PyProof.Rows.firstMet f k ↔ ∃ i, i < k ∧ f i = x
  | 0, x => by simp [PyProof.Rows.firstMet]
  | k + 1, x => by
    rw [PyProof.Rows.firstMet_succ]
    unfold PyProof.Rows.step_dedup
    have ih := many_mem f k
    split
    · rename_i h
      rw [ih]
      constructor
      · rintro ⟨i, h1, h2⟩; exact ⟨i, by omega, h2⟩
      · rintro ⟨i, h1, h2⟩
        by_cases c : i = k
        · subst c
          obtain ⟨y, hy, e⟩ := List.any_eq_true.mp h
          have e := beq_iff_eq.mp e
          obtain ⟨j, h3, h4⟩ := (ih y).mp hy
          exact ⟨j, h3, by rw [h4, e, h2]⟩
        · exact ⟨i, by omega, h2⟩
    · rw [List.mem_append, ih]
      constructor
      · rintro (⟨i, h1, h2⟩ | h)
        · exact ⟨i, by omega, h2⟩
        · exact ⟨k, by omega, (List.mem_singleton.mp h).symm⟩
      · rintro ⟨i, h1, h2⟩
        by_cases c : i = k
        · subst c; exact .inr (by rw [h2]; exact List.mem_cons_self)
        · exact .inl ⟨i, by omega, h2⟩
theorem many_lt (f : Nat → Int) : ∀ k, (∃ i j, i < j ∧ j < k ∧ f i = f j) → (PyProof.Rows.firstMet f k).length < k
  | 0, ⟨_, _, _, h, _⟩ => by omega
  | k + 1, ⟨i, j, h1, h2, h3⟩ => by
    rw [PyProof.Rows.firstMet_succ]
    unfold PyProof.Rows.step_dedup
    have hle := firstMet_le f k
    split
    · omega
    · rename_i h
      by_cases c : j = k
      · subst c
        exact absurd (List.any_eq_true.mpr ⟨f j, (many_mem f j (f j)).mpr ⟨i, h1, h3⟩, by simp⟩) h
      · have := many_lt f k ⟨i, j, h1, by omega, h3⟩
        rw [List.length_append]; simp; omega
theorem many_nodup (ns : List Int) : many ns = ns.length ↔ ns.Nodup := by
  constructor
  · intro h
    refine Classical.byContradiction fun z => ?_
    have : ∃ i j, i < j ∧ j < ns.length ∧ ns.getD i 0 = ns.getD j 0 := by
      refine Classical.byContradiction fun y => z ?_
      unfold List.Nodup
      rw [List.pairwise_iff_getElem]
      intro i j hi hj hij e
      refine y ⟨i, j, hij, hj, ?_⟩
      rw [List.getD_eq_getElem?_getD, List.getD_eq_getElem?_getD, List.getElem?_eq_getElem hi, List.getElem?_eq_getElem hj, e]
    have := many_lt (fun i => ns.getD i 0) ns.length this
    unfold many at h
    omega
  · intro h
    unfold many
    rw [L2.firstMet_nodup ns h ns.length (Nat.le_refl _), List.take_length]
section
variable {B : Base} {Δ : List Sd} {C : Cs} {ta tb te : TE} {tu tz : TS} {D : Ends} {K : PySem.W.Frag} {s : Sd}
theorem ev_lenSet {ns : List Int} (h : Ev B Δ C te (.d (dIs ns))) (hl : ns.length < 64) : Ev B Δ C (tLenSet K te) (sN (many ns)) := fun σ H F hs Q q =>
  h σ H F hs _ fun v F1 H1 h1 e1 e1' w1 => by
    obtain ⟨a, xs, rfl, e, r⟩ := Rep.lst_inv w1
    have := r.ints
    subst this
    exact ⟨a, ns, rfl, SqL.of (h1.fh _ _ e), hl, (q.later e1 e1').now h1 (.int _)⟩
theorem rv_notInKd {d : Addr} {z : Str} {r : Option Value} (h : PySem.W.nsIn K d z = some r) : RV B Δ C (rNotInKd K d) (.d (.str z)) (.v (.ref d)) (.d (.bool (!r.isSome))) := fun σ H F hs x y h1 h2 Q q => by
  cases h1; cases h2
  exact ⟨z, r, rfl, rfl, h, q.now hs (.bl _)⟩
theorem rv_itemKd {d : Addr} {z : Str} {i : Int} {t : Tok} (h : PySem.W.nsIn K d z = some (some (.int i t))) : RV B Δ C (rItemKd K d) (.v (.ref d)) (.d (.str z)) (.d (.int i)) := fun σ H F hs x y h1 h2 Q q => by
  cases h1; cases h2
  exact ⟨z, _, .int i, rfl, rfl, h, ⟨t, rfl⟩, q.now hs (.int _)⟩
theorem cut_left {α : Type} (xs : List α) (k : Nat) : FD.cutD xs none (some (k : Int)) = xs.take k := by
  unfold FD.cutD
  have h0 : HT.sIx xs.length 0 none = 0 := rfl
  have h1 : HT.sIx xs.length xs.length (some (k : Int)) = min k xs.length := by
    show (if (k : Int) < 0 then ((k : Int) + (xs.length : Int)).toNat else min ((k : Int)).toNat xs.length) = _
    rw [if_neg (by omega), Int.toNat_natCast]
  rw [h0, h1, Nat.sub_zero, List.drop_zero]
  rcases Nat.le_total k xs.length with c | c
  · rw [Nat.min_eq_left c]
  · rw [Nat.min_eq_right c, List.take_length, List.take_of_length_le c]
theorem cut_right {α : Type} (xs : List α) (k : Nat) : FD.cutD xs (some (k : Int)) none = xs.drop k := by
  unfold FD.cutD
  have h0 : HT.sIx xs.length 0 (some (k : Int)) = min k xs.length := by
    show (if (k : Int) < 0 then ((k : Int) + (xs.length : Int)).toNat else min ((k : Int)).toNat xs.length) = _
    rw [if_neg (by omega), Int.toNat_natCast]
  have h1 : HT.sIx xs.length xs.length none = xs.length := rfl
  rw [h0, h1]
  rcases Nat.le_total k xs.length with c | c
  · rw [Nat.min_eq_left c, ← List.length_drop, List.take_length]
  · rw [Nat.min_eq_right c, List.drop_length, List.drop_of_length_le c]; simp
theorem cut_mid {α : Type} (xs : List α) : FD.cutD xs (some 1) (some (-1)) = (xs.drop 1).take (xs.length - 2) := by
  unfold FD.cutD
  have h0 : HT.sIx xs.length 0 (some 1) = min 1 xs.length := rfl
  have h1 : HT.sIx xs.length xs.length (some (-1)) = xs.length - 1 := by
    show (if (-1 : Int) < 0 then ((-1 : Int) + (xs.length : Int)).toNat else min ((-1 : Int)).toNat xs.length) = _
    rw [if_pos (by decide)]; omega
  rw [h0, h1]
  cases xs with
  | nil => rfl
  | cons x xs => simp only [List.length_cons]; rw [Nat.min_eq_left (by omega)]; congr 1
theorem at_last {α : Type} {xs : List α} {x : α} (h : xs[xs.length - 1]? = some x) : atI xs (-1) = some x := by
  have hl : 0 < xs.length := by
    cases xs with
    | nil => cases h
    | cons => simp
  unfold atI
  rw [show ixN xs.length (-1) = some (xs.length - 1) from by
    unfold ixN
    rw [if_neg (by omega), if_pos (by omega)]
    congr 1
    omega]
  exact h
end
section
variable {K : PySem.W.Frag} {C : Addr} {vs : List V} {H : Hp} {Q : VK} {E : XK}
theorem range_get {n i p : Nat} (hp : (List.range n)[i]? = some p) : p = i ∧ p < n := by
  have h1 : p < n := by rw [← List.mem_range]; exact List.mem_of_getElem? hp
  have h2 := (List.getElem?_eq_some_iff.mp hp).1
  rw [List.length_range] at h2
  rw [List.getElem?_range h2] at hp
  exact ⟨(Option.some.inj hp).symm, h1⟩
theorem getI {hs : List Int} {k : Nat} (h : k < hs.length) : hs[k]? = some (hs.getD k 0) := by
  rw [List.getD_eq_getElem?_getD, List.getElem?_eq_getElem h]; rfl
theorem pure_pairs_of (h : sp_pairs_of K C vs H Q E) : t_pairs_of K C { nx := fun _ H' => Q .non H', rt := Q } (L2.start N_pairs_of vs) H := by
  refine enterD h fun F ss s hf ha hR hq => ?_
  obtain ⟨kind, hs, rfl, hl, rfl⟩ := hR
  refine ⟨_, ha, ?_⟩
  show WP ⟨F, H, []⟩ [.d (.str kind), .d (dIs hs), .no, .no, .no] [] (t_pairs_of K C) _
  refine q_asg (s := .d (dPs [])) ev_lst0 ?_
  have hpl := pairsL_len kind hs
  refine q_for1 (α := Unit) dN (Src.rN (ea_cons (ev_eq (ev_cb (ea_cons (ev_var rfl rfl) ea_nil) rc_lenL) (show _ = sN hs.length by rw [List.length_map])) ea_nil)) (fun _ _ => True) (fun i _ => [.d (.str kind), .d (dIs hs), .d (dPs (pairsL kind hs i)), .any, .any]) (fun _ _ => []) (fun G => nx_inv () trivial) ?_ ?_
  · intro G i _ p hp _
    obtain ⟨rfl, hpn⟩ := range_get hp
    have h1 := hpl p
    have h2 : p * hs.length ≤ 100 * 100 := Nat.mul_le_mul (by omega) hl
    have fan : ∀ {j : Nat} {tl : TO}, EvO ⟨F, H, G⟩ [.d (.str kind), .d (dIs hs), .d (dPs (pairsL kind hs p)), sN p, .any] [] tl (some (j : Int)) → Ev ⟨F, H, G⟩ [.d (.str kind), .d (dIs hs), .d (dPs (pairsL kind hs p)), sN p, .any] [] (tLc (iList K (tSl (rSlL K) (tVar 1) tl tNoPart)) (gName 4) tYes (tTup (tCons (tOp (rIx K) (tVar 1) (tVar 3)) (tCons (tVar 4) tNil))) [4]) (.d (dPs ((hs.drop j).map fun o => (hs.getD p 0, o)))) := fun {j tl} ho =>
      ev_of' (((hs.drop j).map fun o => (hs.getD p 0, o)).map dP) (evN_lc1A PyData.int (fun o : Int => .d (dP (hs.getD p 0, o))) (Src.eq (Src.list (ev_sl (ev_var rfl rfl) ho eo_none)) (by rw [cutD_map, cut_right])) (fun B' o le ho => ev_tup2 (ev_op (ev_var rfl rfl) (ev_var rfl rfl) (rv_xL (atI_mapN PyData.int (getI hpn)))) (ev_var rfl rfl)) (by rw [List.length_drop]; omega)) (by rw [List.map_map, List.map_map]; rfl)
    have cat : ∀ {te : TE} {ps : List PI2}, ps.length ≤ 100 → Ev ⟨F, H, G⟩ [.d (.str kind), .d (dIs hs), .d (dPs (pairsL kind hs p)), sN p, .any] [] te (.d (dPs ps)) → Ev ⟨F, H, G⟩ [.d (.str kind), .d (dIs hs), .d (dPs (pairsL kind hs p)), sN p, .any] [] (tOp rCat (tVar 2) te) (.d (dPs (pairsL kind hs p ++ ps))) := fun hps he => ev_eq (ev_of (evN_op (ev_var rfl rfl) he (rv_cat (by rw [List.length_map, List.length_map]; omega)))) (by rw [← List.map_append])
    refine s_if (b := decide (kind = five)) (et_test (ev_op (ev_var rfl rfl) ev_str rv_eqS)) (fun c => ?_) (fun c => ?_)
    · have c := of_decide_eq_true c
      have ef : fanAt kind hs p = (hs.drop (p + 1)).map fun o => (hs.getD p 0, o) := if_pos c
      refine s_asg (cat (by rw [List.length_map, List.length_drop]; omega) (fan (j := p + 1) (eo_some (ev_op (ev_var rfl rfl) ev_int rv_ii)))) (nx_inv () trivial (w := ?_))
      rw [← ef]
      repeat (first | exact Wk.nil | apply Wk.any | apply Wk.same)
    · have c := of_decide_eq_false c
      refine s_when (b := decide (p < 3)) (evT_eq (et_test (ev_op (ev_var rfl rfl) ev_int rv_ib)) (by rw [decide_eq_decide]; omega)) (fun c3 => ?_) (fun c3 => ?_)
      · have c3 := of_decide_eq_true c3
        have ef : fanAt kind hs p = (hs.drop 3).map fun o => (hs.getD p 0, o) := by unfold fanAt; rw [if_neg c, if_pos c3]
        refine s_asg (cat (by rw [List.length_map, List.length_drop]; omega) (fan (j := 3) (eo_some ev_int))) (nx_inv () trivial (w := ?_))
        rw [← ef]
        repeat (first | exact Wk.nil | apply Wk.any | apply Wk.same)
      · have c3 := of_decide_eq_false c3
        have ef : fanAt kind hs p = [] := by unfold fanAt; rw [if_neg c, if_neg c3]
        have e : pairsL kind hs (p + 1) = pairsL kind hs p := by show pairsL kind hs p ++ fanAt kind hs p = _; rw [ef, List.append_nil]
        refine nx_inv () trivial (w := ?_)
        rw [e]
        repeat (first | exact Wk.nil | apply Wk.any | apply Wk.same)
  · intro _ _
    rw [List.length_range]
    exact s_ret (ev_var rfl rfl) hq
theorem hasB_inN (n : Nat) (i : Int) : hasB n (.int i) = inN n i := rfl
theorem kinds_cases {kind : Str} (h : kind ∈ kinds5) : kind = five ∨ kind = three ∨ kind = "four" ∨ kind = "" ∨ kind = "Five" := by
  simp only [kinds5, List.mem_cons, List.not_mem_nil, or_false] at h
  exact h
theorem ne53 : ¬ (three = five) := by decide
theorem rc_minL {B : Base} {Δ : List Sd} {C' : Cs} {ns : List Int} (h : 0 < ns.length) : RC B Δ C' (rMin K) [.d (dIs ns)] (.d (.int ((sortI ns).getD 0 0))) := fun σ H F hs xs w Q q => by
  cases w with | cons w w' =>
    cases w'; obtain ⟨a, xs, rfl, e, r⟩ := Rep.lst_inv w
    have := r.ints
    subst this
    refine ⟨a, ns, rfl, SqL.of (hs.fh _ _ e), h, fun m hm hle => ?_⟩
    have hp := sortI_perm ns
    have hs2 := sortI_pw ns
    have hl : 0 < (sortI ns).length := by rw [hp.length_eq]; exact h
    have em : m = (sortI ns).getD 0 0 := by
      cases q : sortI ns with
      | nil => rw [q] at hl; cases hl
      | cons y ys =>
        rw [q] at hp hs2
        have h1 : y ∈ ns := hp.mem_iff.mp List.mem_cons_self
        have h2 : m ∈ y :: ys := hp.mem_iff.mpr hm
        have h3 := hle y h1
        rcases List.mem_cons.mp h2 with e | h4
        · exact e
        · have := (List.pairwise_cons.mp hs2).1 m h4
          show m = y
          omega
    rw [em]
    exact q.now hs (.int _)
theorem ev_sortL {B : Base} {Δ : List Sd} {C' : Cs} {te : TE} {ns : List Int} (h : Ev B Δ C' te (.d (dIs ns))) : Ev B Δ C' (tCB (rSortedI K) (tCons te tNil)) (.d (dIs (sortI ns))) := ev_of (evN_cb (ea_cons h ea_nil) rcN_sorted)
theorem rv_eqIs {B : Base} {Δ : List Sd} {C' : Cs} {a b : List Int} : RV B Δ C' (rEqD K) (.d (dIs a)) (.d (dIs b)) (.d (.bool (decide (a = b)))) := rv_eqG (f := dIs) faith_is (shp_is _).shaped (shp_is _).shaped
theorem pure_heads_fit {dS : Addr} (w : WebC K C) (ks : KSz K dS) (h : sp_heads_fit K C vs H Q E) : t_heads_fit K C dS { nx := fun _ H' => Q .non H', rt := Q } (L2.start N_heads_fit vs) H := by
  refine enterD h fun F ss s hf ha hR hq => ?_
  obtain ⟨n, near, kind, hs, rfl, hn, hk, hl, rfl⟩ := hR
  refine ⟨_, ha, ?_⟩
  show WP ⟨F, H, []⟩ [.p (WebM C n near), .d (.str kind), .d (dIs hs), .no] [] (t_heads_fit K C dS) _
  have elen : ∀ {B' : Base} {Δ' C'}, Δ'[2]? = some (.d (dIs hs)) → Ev B' Δ' C' (tCB (xLen K) (tCons (tVar 2) tNil)) (sN hs.length) := fun z => ev_eq (ev_cb (ea_cons (ev_var z rfl) ea_nil) rc_lenL) (by rw [List.length_map])
  by_cases hkk : kind = five ∨ kind = three
  · obtain ⟨t, hsz⟩ : ∃ t, PySem.W.nsIn K dS kind = some (some (.int (sizeK kind : Nat) t)) := by
      rcases hkk with rfl | rfl
      · obtain ⟨t, e⟩ := ks.n5; exact ⟨t, e⟩
      · obtain ⟨t, e⟩ := ks.n3; exact ⟨t, e⟩
    have ek : (decide (kind = five) || decide (kind = three)) = true := by simpa using hkk
    unfold headsB at hq
    rw [ek, Bool.true_and] at hq
    refine q_when (b := !decide (hs.length = sizeK kind) || !decide hs.Nodup) (et_orF (et_test (ev_op (ev_var rfl rfl) ev_cv (rv_notInKd hsz))) rfl (et_or (evT_eq (et_test (ev_op (elen rfl) (ev_op ev_cv (ev_var rfl rfl) (rv_itemKd hsz)) rv_neI)) (by congr 1; rw [decide_eq_decide]; omega)) fun _ => evT_eq (et_test (ev_op (ev_lenSet (ev_var rfl rfl) (by omega)) (elen rfl) rv_neI)) ?_)) (fun c => ?_) (fun c => ?_)
    · congr 1
      rw [decide_eq_decide, ← many_nodup]; omega
    · have e : (decide (hs.length = sizeK kind) && (decide hs.Nodup && (hs.all (inN n) && ordB kind hs))) = false := by
        rw [← Bool.not_and, Bool.not_eq_true'] at c
        rw [← Bool.and_assoc, c]; rfl
      rw [e] at hq
      exact s_ret ev_bl hq
    · rw [Bool.or_eq_false_iff] at c
      obtain ⟨c1, c2⟩ := c
      have c1 : hs.length = sizeK kind := by simpa using c1
      have c2 : hs.Nodup := by simpa using c2
      rw [decide_eq_true c1, decide_eq_true c2, Bool.true_and, Bool.true_and] at hq
      have hl0 : 0 < hs.length := by rw [c1]; unfold sizeK; split <;> decide
      refine q_for1 (α := Unit) PyData.int (as := hs) (Src.list (ev_var rfl rfl)) (fun i _ => (hs.take i).all (inN n) = true) (fun _ _ => [.p (WebM C n near), .d (.str kind), .d (dIs hs), .any]) (fun _ _ => []) (fun G => nx_inv () (by simp)) ?_ ?_
      · intro G i _ x hx hi
        refine s_when (b := !inN n x) (et_not (et_B (ev_meth (s := .d (.bool (inN n x))) (ev_var rfl rfl) (fun F' v hv => selfI hv) (ea_cons (ev_var rfl rfl) ea_nil) fun σ H' F' hs => ⟨_, .int x, n, rfl, fun v hv => selfH hs hv, rfl⟩))) (fun c => ?_) (fun c => ?_)
        · have c : inN n x = false := by simpa using c
          have e : hs.all (inN n) = false := by
            cases z : hs.all (inN n) with
            | false => rfl
            | true => have := List.all_eq_true.mp z x (List.mem_of_getElem? hx); rw [c] at this; cases this
          rw [e, Bool.false_and] at hq
          exact s_ret ev_bl fun v F' H' x w => hq v F' H' ⟨x.ff, x.fh, x.hh, x.gr⟩ w
        · have c : inN n x = true := by simpa using c
          refine nx_inv () ?_
          show (hs.take (i + 1)).all (inN n) = true
          rw [take_succ hx, List.all_append, hi]; simp [c]
      · intro _ hall
        rw [List.take_length] at hall
        rw [hall, Bool.true_and] at hq
        refine q_when (b := decide (kind = five)) (et_test (ev_op (ev_var rfl rfl) ev_str rv_eqS)) (fun c => ?_) (fun c => ?_)
        · have c := of_decide_eq_true c
          unfold ordB at hq
          rw [if_pos c] at hq
          exact s_ret (ev_op (ev_var rfl rfl) (ev_sortL (ev_var rfl rfl)) rv_eqIs) hq
        · have c := of_decide_eq_false c
          unfold ordB at hq
          rw [if_neg c] at hq
          have e3l : ∀ {B' : Base} {Δ' C'}, Δ'[2]? = some (.d (dIs hs)) → Ev B' Δ' C' (tSl (rSlL K) (tVar 2) tNoPart (tPart (tC (.int 3)))) (.d (dIs (hs.take 3))) := fun z => ev_eq (ev_sl (ev_var z rfl) eo_none (eo_some ev_int)) (by rw [show (3 : Int) = ((3 : Nat) : Int) from rfl, cutD_map, cut_left])
          have e3r : ∀ {B' : Base} {Δ' C'}, Δ'[2]? = some (.d (dIs hs)) → Ev B' Δ' C' (tSl (rSlL K) (tVar 2) (tPart (tC (.int 3))) tNoPart) (.d (dIs (hs.drop 3))) := fun z => ev_eq (ev_sl (ev_var z rfl) (eo_some ev_int) eo_none) (by rw [show (3 : Int) = ((3 : Nat) : Int) from rfl, cutD_map, cut_right])
          exact s_ret (ev_andV (ev_op (ev_op (ev_var rfl rfl) ev_int (rv_xL (atI_mapN (i := 0) PyData.int (getI hl0)))) (ev_cb (ea_cons (ev_var rfl rfl) ea_nil) (rc_minL hl0)) rv_eqI) fun _ => ev_andV (ev_op (e3l rfl) (ev_sortL (e3l rfl)) rv_eqIs) fun _ => ev_op (e3r rfl) (ev_sortL (e3r rfl)) rv_eqIs) hq
  · have hno : PySem.W.nsIn K dS kind = some none := by
      rcases kinds_cases hk with e | e | rfl | rfl | rfl
      · exact absurd (.inl e) hkk
      · exact absurd (.inr e) hkk
      · exact ks.n4
      · exact ks.n0
      · exact ks.nF
    have ek : (decide (kind = five) || decide (kind = three)) = false := by
      rw [not_or] at hkk
      rw [decide_eq_false hkk.1, decide_eq_false hkk.2]; rfl
    unfold headsB at hq
    rw [ek, Bool.false_and] at hq
    exact q_when (b := true) (evT_eq (et_or (a := true) (b := false) (et_test (ev_op (ev_var rfl rfl) ev_cv (rv_notInKd hno))) fun z => by cases z) rfl) (fun _ => s_ret ev_bl hq) (fun z => by cases z)
theorem inN_nat {n : Nat} {i : Int} (h : inN n i = true) : i = (i.toNat : Int) ∧ i.toNat < n := by
  unfold inN at h
  simp only [Bool.and_eq_true, decide_eq_true_eq] at h
  omega
theorem rv_neP {B : Base} {Δ : List Sd} {C' : Cs} {a b : PI2} : RV B Δ C' (rNeD K) (.d (dP a)) (.d (dP b)) (.d (.bool (!decide (a = b)))) := rv_neG (f := dP) faith_p (shp_p _).shaped (shp_p _).shaped
theorem pure_row_fits (w : WebC K C) (h : sp_row_fits K C vs H Q E) : t_row_fits K C { nx := fun _ H' => Q .non H', rt := Q } (L2.start N_row_fits vs) H := by
  refine enterD h fun F ss s hf ha hR hq => ?_
  obtain ⟨n, near, row, e, rfl, hn, hl, rfl⟩ := hR
  refine ⟨_, ha, ?_⟩
  show WP ⟨F, H, []⟩ [.p (WebM C n near), .d (dIs row), .d (dP e), .no, .no] [] (t_row_fits K C) _
  have elen : ∀ {B' : Base} {Δ' C'}, Δ'[1]? = some (.d (dIs row)) → Ev B' Δ' C' (tCB (xLen K) (tCons (tVar 1) tNil)) (sN row.length) := fun z => ev_eq (ev_cb (ea_cons (ev_var z rfl) ea_nil) rc_lenL) (by rw [List.length_map])
  unfold rowB at hq
  by_cases h2 : 2 ≤ row.length
  · rw [decide_eq_true h2, Bool.true_and] at hq
    refine q_when (b := !decide ((row.getD 0 0, row.getD (row.length - 1) 0) = e)) (et_orF (evT_eq (et_test (ev_op (elen rfl) ev_int rv_ib)) (b' := false) (by simp; omega)) rfl (et_test (ev_op (ev_tup2 (a := .int (row.getD 0 0)) (b := .int (row.getD (row.length - 1) 0)) (ev_op (ev_var rfl rfl) ev_int (rv_xL (atI_mapN (i := 0) PyData.int (getI (by omega))))) (ev_op (ev_var rfl rfl) (ev_un ev_int ru_i) (rv_xL (at_last (by rw [List.length_map, List.getElem?_map, getI (by omega)]; rfl))))) (ev_var rfl rfl) (rv_neP (a := (row.getD 0 0, row.getD (row.length - 1) 0)) (b := e))))) (fun c => ?_) (fun c => ?_)
    · have c : ¬ (row.getD 0 0, row.getD (row.length - 1) 0) = e := by simpa using c
      rw [decide_eq_false c, Bool.false_and] at hq
      exact s_ret ev_bl hq
    · have c : (row.getD 0 0, row.getD (row.length - 1) 0) = e := by simpa using c
      rw [decide_eq_true c, Bool.true_and] at hq
      refine q_for1 (α := Unit) PyData.int (as := row) (Src.list (ev_var rfl rfl)) (fun i _ => (row.take i).all (inN n) = true) (fun _ _ => [.p (WebM C n near), .d (dIs row), .d (dP e), .any, .any]) (fun _ _ => []) (fun G => nx_inv () (by simp)) ?_ ?_
      · intro G i _ x hx hi
        refine s_when (b := !inN n x) (et_not (et_B (ev_meth (s := .d (.bool (inN n x))) (ev_var rfl rfl) (fun F' v hv => selfI hv) (ea_cons (ev_var rfl rfl) ea_nil) fun σ H' F' hs => ⟨_, .int x, n, rfl, fun v hv => selfH hs hv, rfl⟩))) (fun c => ?_) (fun c => ?_)
        · have c : inN n x = false := by simpa using c
          have e : row.all (inN n) = false := by
            cases z : row.all (inN n) with
            | false => rfl
            | true => have := List.all_eq_true.mp z x (List.mem_of_getElem? hx); rw [c] at this; cases this
          rw [e, Bool.false_and] at hq
          exact s_ret ev_bl fun v F' H' x w => hq v F' H' ⟨x.ff, x.fh, x.hh, x.gr⟩ w
        · have c : inN n x = true := by simpa using c
          refine nx_inv () ?_
          show (row.take (i + 1)).all (inN n) = true
          rw [take_succ hx, List.all_append, hi]; simp [c]
      · intro _ hall
        rw [List.take_length] at hall
        rw [hall, Bool.true_and] at hq
        have hin : ∀ {j}, j < row.length → row.getD j 0 = ((row.getD j 0).toNat : Int) ∧ (row.getD j 0).toNat < n := fun {j} hj => inN_nat (List.all_eq_true.mp hall _ (List.mem_of_getElem? (getI hj)))
        refine q_for1 (α := Unit) (fun i : Nat => PyData.int ((1 + i : Nat) : Int)) (Src.rMN (m := 1) (n := row.length) (ea_cons ev_int (ea_cons (elen rfl) ea_nil))) (fun i _ => ((List.range i).all fun i => tiedB near (row.getD i 0) (row.getD (i + 1) 0)) = true) (fun _ _ => [.p (WebM C n near), .d (dIs row), .d (dP e), .any, .any]) (fun _ _ => []) (fun G => nx_inv () (by simp)) ?_ ?_
        · intro G i _ p hp hi
          obtain ⟨rfl, hpn⟩ := range_get hp
          obtain ⟨a1, a2⟩ := hin (j := p) (by omega)
          obtain ⟨b1, b2⟩ := hin (j := p + 1) (by omega)
          have i1 : ((1 + p : Nat) : Int) - 1 = ((p : Nat) : Int) := by omega
          have ea : Ev ⟨F, H, G⟩ [.p (WebM C n near), .d (dIs row), .d (dP e), .any, .d (.int ((1 + p : Nat) : Int))] [] (tOp (rIx K) (tVar 1) (tOp (rI0 fun i j => .int (i - j)) (tVar 4) (tC (.int 1)))) (sN (row.getD p 0).toNat) := ev_eq (ev_op (s3 := .d (.int (row.getD p 0))) (ev_var rfl rfl) (ev_eq (ev_op (ev_var rfl rfl) ev_int rv_ii) (show _ = sN p by rw [i1])) (rv_xL (atI_mapN PyData.int (getI (by omega))))) (by rw [show sN (row.getD p 0).toNat = .d (.int ((row.getD p 0).toNat : Int)) from rfl, ← a1])
          have eb : Ev ⟨F, H, G⟩ [.p (WebM C n near), .d (dIs row), .d (dP e), .any, .d (.int ((1 + p : Nat) : Int))] [] (tOp (rIx K) (tVar 1) (tVar 4)) (sN (row.getD (p + 1) 0).toNat) := ev_eq (ev_op (s3 := .d (.int (row.getD (p + 1) 0))) (ev_var rfl rfl) (ev_eq (ev_var rfl rfl) (show _ = sN (p + 1) by rw [Nat.add_comm])) (rv_xL (atI_mapN PyData.int (getI (by omega))))) (by rw [show sN (row.getD (p + 1) 0).toNat = .d (.int ((row.getD (p + 1) 0).toNat : Int)) from rfl, ← b1])
          refine s_when (b := !tiedB near (row.getD p 0) (row.getD (p + 1) 0)) (et_not (et_B (ev_meth (s := .d (.bool (tiedB near (row.getD p 0) (row.getD (p + 1) 0)))) (ev_var rfl rfl) (fun F' v hv => selfI hv) (ea_cons ea (ea_cons eb ea_nil)) fun σ H' F' hs => ⟨n, near, _, _, rfl, hn, a2, b2, rfl⟩))) (fun c => ?_) (fun c => ?_)
          · have c : tiedB near (row.getD p 0) (row.getD (p + 1) 0) = false := by simpa using c
            have e : ((List.range (row.length - 1)).all fun i => tiedB near (row.getD i 0) (row.getD (i + 1) 0)) = false := by
              cases z : (List.range (row.length - 1)).all fun i => tiedB near (row.getD i 0) (row.getD (i + 1) 0) with
              | false => rfl
              | true => have := List.all_eq_true.mp z p (List.mem_range.mpr hpn); rw [c] at this; cases this
            rw [e] at hq
            exact s_ret ev_bl fun v F' H' x w => hq v F' H' ⟨x.ff, x.fh, x.hh, x.gr⟩ w
          · have c : tiedB near (row.getD p 0) (row.getD (p + 1) 0) = true := by simpa using c
            refine nx_inv () ?_
            rw [List.range_succ, List.all_append, hi]; simp only [List.all_cons, List.all_nil, c, Bool.and_self]
        · intro _ hall
          rw [List.length_range] at hall
          rw [hall] at hq
          exact s_ret ev_bl hq
  · rw [decide_eq_false h2, Bool.false_and] at hq
    exact q_when (b := true) (evT_eq (et_or (a := true) (b := false) (evT_eq (et_test (ev_op (elen rfl) ev_int rv_ib)) (by simp; omega)) fun z => by cases z) rfl) (fun _ => s_ret ev_bl hq) (fun z => by cases z)
/-- the dict of what is met -/
def dkOf (m : List Int) : List (Key × Sd) := m.foldl (fun k x => putA k (.inl x) (.d (.bool true))) []
theorem dkOf_snoc (m : List Int) (x : Int) : dkOf (m ++ [x]) = putA (dkOf m) (.inl x) (.d (.bool true)) := by unfold dkOf; rw [List.foldl_append]; rfl
theorem dkOf_look : ∀ (m : List Int) (x : Int), (lookA (dkOf m) (.inl x)).isSome = decide (x ∈ m) := by
  refine rev_ind (fun x => by simp [dkOf, lookA_nil]) ?_
  intro m y ih x
  rw [dkOf_snoc, lookA_put]
  by_cases c : (Sum.inl x : Key) = Sum.inl y
  · rw [if_pos c]
    cases c
    simp
  · have c' : ¬ x = y := fun z => c (by rw [z])
    rw [if_neg c, ih]
    simp [c']
theorem dkOf_len : ∀ m : List Int, (dkOf m).length ≤ m.length := by
  refine rev_ind (Nat.le_refl _) ?_
  intro m y ih
  rw [dkOf_snoc, List.length_append]
  have := putA_len (dkOf m) (Sum.inl y : Key) (.d (.bool true))
  simp; omega
theorem goI_len : ∀ (ps m m' : List Int), goI ps m = some m' → m'.length = m.length + ps.length
  | [], m, m', h => by cases h; simp
  | p :: ps, m, m', h => by
    unfold goI at h
    split at h
    · cases h
    · have := goI_len ps _ _ h
      rw [this, List.length_append]; simp; omega
theorem pure_is_knot (h : sp_is_knot K C vs H Q E) : t_is_knot K C { nx := fun _ H' => Q .non H', rt := Q } (L2.start N_is_knot vs) H := by
  refine enterD h fun F ss s hf ha hR hq => ?_
  obtain ⟨n, near, kind, hs, rows, rfl, hn, hk, hl, hrl, hr60, rfl⟩ := hR
  refine ⟨_, ha, ?_⟩
  show WP ⟨F, H, []⟩ [.p (WebM C n near), .d (.tuple [.str kind, dIs hs, dIss rows]), .no, .no, .no, .no, .no, .no, .no] [] (t_is_knot K C) _
  refine q_tgt (ev_var rfl rfl) tg_tup3 ?_
  show WP ⟨F, H, []⟩ [.p (WebM C n near), .d (.tuple [.str kind, dIs hs, dIss rows]), .d (.str kind), .d (dIs hs), .d (dIss rows), .no, .no, .no, .no] [] _ _
  unfold knotB at hq
  refine q_when (b := !headsB n kind hs) (et_not (et_B (ev_call (s := .d (.bool (headsB n kind hs))) (ea_cons (ev_var rfl rfl) (ea_cons (ev_var rfl rfl) (ea_cons (ev_var rfl rfl) ea_nil))) fun _ _ _ _ => ⟨n, near, kind, hs, rfl, hn, hk, hl, rfl⟩))) (fun c => ?_) (fun c => ?_)
  · have c : headsB n kind hs = false := by simpa using c
    rw [c, Bool.false_and] at hq
    exact s_ret ev_bl hq
  have c : headsB n kind hs = true := by simpa using c
  rw [c, Bool.true_and] at hq
  refine q_asg (s := .d (dPs (pairsL kind hs hs.length))) (ev_call (ea_cons (ev_var rfl rfl) (ea_cons (ev_var rfl rfl) ea_nil)) fun _ _ _ _ => ⟨kind, hs, rfl, by omega, rfl⟩) ?_
  generalize pairsL kind hs hs.length = ends at hq
  refine q_when (b := !decide (rows.length = ends.length)) (evT_eq (et_test (ev_op (ev_cb (ea_cons (ev_var rfl rfl) ea_nil) rc_lenL) (ev_cb (ea_cons (ev_var rfl rfl) ea_nil) rc_lenL) rv_neI)) (by rw [List.length_map, List.length_map]; congr 1; rw [decide_eq_decide]; omega)) (fun c => ?_) (fun c => ?_)
  · have c : ¬ rows.length = ends.length := by simpa using c
    rw [decide_eq_false c, Bool.false_and] at hq
    exact s_ret ev_bl hq
  have c : rows.length = ends.length := by simpa using c
  rw [decide_eq_true c, Bool.true_and] at hq
  refine q_new evN_dnewK fun md hmd => ?_
  have hmd : H md = none := hmd
  refine q_for1 (α := Unit) PyData.int (as := hs) (Src.list (ev_var rfl rfl)) (fun _ _ => True) (fun _ _ => [.p (WebM C n near), .d (.tuple [.str kind, dIs hs, dIss rows]), .d (.str kind), .d (dIs hs), .d (dIss rows), .d (dPs ends), .v (.ref md), .any, .any]) (fun i _ => [(md, .dk (dkOf (hs.take i)))]) (fun G => nx_inv () trivial) ?_ ?_
  · intro G i _ x hx _
    have hdl := dkOf_len (hs.take i)
    have htl := List.length_take_le' i hs
    refine s_dputK (k := 0) (x := .inl x) rfl ev_bl (ev_var rfl rfl) (ev_var rfl rfl) (nx_inv () trivial (hC := ?_)) (by omega)
    rw [take_succ hx, dkOf_snoc]; rfl
  intro _ _
  rw [List.take_length]
  have ezip : ∀ i r e, rows[i]? = some r → ends[i]? = some e → (rows.zip ends).drop i = (r, e) :: (rows.zip ends).drop (i + 1) := fun i r e h1 h2 => by
    have h3 : (rows.zip ends)[i]? = some (r, e) := by rw [List.getElem?_zip_eq_some]; exact ⟨h1, h2⟩
    have hi := (List.getElem?_eq_some_iff.mp h3).1
    rw [List.drop_eq_getElem_cons hi]; congr 1; exact (List.getElem?_eq_some_iff.mp h3).2
  refine q_for1 (α := List Int) dN (Src.rN (ea_cons (ev_eq (ev_cb (ea_cons (ev_var rfl rfl) ea_nil) rc_lenL) (show _ = sN rows.length by rw [List.length_map])) ea_nil)) (fun i m => goR (rowB n near) ((rows.zip ends).drop i) m = goR (rowB n near) (rows.zip ends) hs ∧ m.length ≤ 60 + 60 * i) (fun _ _ => [.p (WebM C n near), .d (.tuple [.str kind, dIs hs, dIss rows]), .d (.str kind), .d (dIs hs), .d (dIss rows), .d (dPs ends), .v (.ref md), .any, .any]) (fun _ m => [(md, .dk (dkOf m))]) (fun G => nx_inv hs ⟨by simp, by omega⟩) ?_ ?_
  · intro G i m p hp ⟨hgo, hml⟩
    obtain ⟨rfl, hpn⟩ := range_get hp
    have hr : rows[p]? = some rows[p] := List.getElem?_eq_getElem hpn
    have he : ends[p]? = some (ends[p]'(by omega)) := List.getElem?_eq_getElem (by omega)
    have hrl60 := hr60 _ (List.getElem_mem hpn)
    rw [ezip p _ _ hr he] at hgo
    generalize rows[p] = row at hr hrl60 hgo
    generalize ends[p]'(by omega) = e at he hgo
    have hgo : (rowB n near row e && match goI (midL row) m with | none => false | some m' => goR (rowB n near) ((rows.zip ends).drop (p + 1)) m') = goR (rowB n near) (rows.zip ends) hs := hgo
    have hret : (false = goR (rowB n near) (rows.zip ends) hs) → ∀ v F' H' G', Ext ⟨F, H, G'⟩ F' H' → SlV F' v (.d (.bool false)) → Q v H' := fun e v F' H' G' x w => hq v F' H' ⟨x.ff, x.fh, x.hh, x.gr⟩ (by rw [← e]; exact w)
    have erow : ∀ {B' : Base} {Δ' C'}, Δ'[4]? = some (.d (dIss rows)) → Δ'[8]? = some (sN p) → Ev B' Δ' C' (tOp (rIx K) (tVar 4) (tVar 8)) (.d (dIs row)) := fun z1 z2 => ev_op (ev_var z1 rfl) (ev_var z2 rfl) (rv_xL (atI_mapN dIs hr))
    refine q_when (b := !rowB n near row e) (et_not (et_B (ev_call (s := .d (.bool (rowB n near row e))) (ea_cons (ev_var rfl rfl) (ea_cons (erow rfl rfl) (ea_cons (ev_op (ev_var rfl rfl) (ev_var rfl rfl) (rv_xL (atI_mapN dP he))) ea_nil))) fun _ _ _ _ => ⟨n, near, row, e, rfl, hn, hrl60, rfl⟩))) (fun c => ?_) (fun c => ?_)
    · have c : rowB n near row e = false := by simpa using c
      rw [c, Bool.false_and] at hgo
      exact s_ret ev_bl (fun v F' H' x w => hret hgo v F' H' G x w) (by simpa using hmd)
    have c : rowB n near row e = true := by simpa using c
    rw [c, Bool.true_and] at hgo
    have hmid : (midL row).length ≤ 60 := by unfold midL; rw [List.length_take, List.length_drop]; omega
    refine s_for1 (α := List Int) PyData.int (as := midL row) (Src.eq (Src.list (ev_sl (erow rfl rfl) (eo_some ev_int) (eo_some (ev_un ev_int ru_i)))) (by rw [show ((-(1 : Int))) = -1 from rfl, cutD_map, cut_mid]; rfl)) (fun j m' => goI ((midL row).drop j) m' = goI (midL row) m ∧ m'.length = m.length + j) (fun _ _ => [.p (WebM C n near), .d (.tuple [.str kind, dIs hs, dIss rows]), .d (.str kind), .d (dIs hs), .d (dIss rows), .d (dPs ends), .v (.ref md), .any, sN p]) (fun _ m' => [(md, .dk (dkOf m'))]) (fun G => nx_inv m ⟨by simp, by omega⟩) ?_ ?_
    · intro G2 j m' x hx ⟨hg, hm'⟩
      have hj := (List.getElem?_eq_some_iff.mp hx).1
      have hd : (midL row).drop j = x :: (midL row).drop (j + 1) := by
        rw [List.drop_eq_getElem_cons hj]; congr 1; exact (List.getElem?_eq_some_iff.mp hx).2
      rw [hd] at hg
      have hg : (if x ∈ m' then none else goI ((midL row).drop (j + 1)) (m' ++ [x])) = goI (midL row) m := hg
      have hdl := dkOf_len m'
      refine q_when (b := decide (x ∈ m')) (evT_eq (et_B (ev_dinK (k := 0) (x := .inl x) rfl (ev_var rfl rfl) (ev_var rfl rfl))) (dkOf_look m' x)) (fun c => ?_) (fun c => ?_)
      · have c := of_decide_eq_true c
        rw [if_pos c] at hg
        rw [← hg] at hgo
        exact s_ret ev_bl (fun v F' H' x w => hret hgo v F' H' G2 x w) (by simpa using hmd)
      · have c := of_decide_eq_false c
        rw [if_neg c] at hg
        refine s_dputK (k := 0) (x := .inl x) rfl ev_bl (ev_var rfl rfl) (ev_var rfl rfl) (nx_inv (m' ++ [x]) ⟨hg, ?_⟩ (hC := ?_)) (by omega)
        · rw [List.length_append]; simp; omega
        · rw [dkOf_snoc]; rfl
    · intro m' ⟨hg, hm'⟩
      rw [List.drop_length] at hg
      have hg : some m' = goI (midL row) m := hg
      rw [← hg] at hgo
      refine nx_inv m' ⟨hgo, ?_⟩
      rw [hm']; omega
  · intro m ⟨hgo, _⟩
    rw [List.length_range, List.drop_of_length_le (by rw [List.length_zip]; omega)] at hgo
    have hgo : true = goR (rowB n near) (rows.zip ends) hs := hgo
    rw [← hgo] at hq
    exact s_ret ev_bl hq (by simpa using hmd)
end
end FK

set_option Elab.async false
set_option linter.all false
set_option maxRecDepth 100000
set_option maxHeartbeats 1000000
set_option autoImplicit false
/-! turns at a point: who follows whom; one put in -/
namespace DA
open FW FM FN FB FT FR
theorem idxOf_mid {l1 l2 : List Nat} {x : Nat} (h : x ∉ l1) : (l1 ++ x :: l2).idxOf x = l1.length := by
  rw [List.idxOf_append, if_neg h, List.idxOf_cons_self]; omega
theorem succT_mid {l1 l2 : List Nat} {x y : Nat} (h : (l1 ++ x :: y :: l2).Nodup) : succT (l1 ++ x :: y :: l2) x = y := by
  have hx : x ∉ l1 := fun z => (List.nodup_append.mp h).2.2 x z x List.mem_cons_self rfl
  unfold succT
  rw [idxOf_mid hx, Nat.mod_eq_of_lt (by simp), List.getD_eq_getElem?_getD, List.getElem?_append_right (by omega), show l1.length + 1 - l1.length = 1 by omega]; rfl
theorem succT_last {l : List Nat} {x : Nat} (h : (l ++ [x]).Nodup) : succT (l ++ [x]) x = (l ++ [x]).headD 0 := by
  have hx : x ∉ l := fun z => (List.nodup_append.mp h).2.2 x z x List.mem_cons_self rfl
  unfold succT
  rw [idxOf_mid hx, show (l ++ [x]).length = l.length + 1 by simp, Nat.mod_self]
  cases l <;> rfl
/-- w is put behind x -/
def insA (x w : Nat) (t : List Nat) : List Nat := t.flatMap fun z => if z = x then [x, w] else [z]
theorem insA_off {x w : Nat} : ∀ {t : List Nat}, x ∉ t → insA x w t = t
  | [], _ => rfl
  | z :: t, h => by
    have h1 : ¬ z = x := fun e => h (e ▸ List.mem_cons_self)
    show (if z = x then [x, w] else [z]) ++ insA x w t = _
    rw [if_neg h1, insA_off fun m => h (List.mem_cons_of_mem _ m)]; rfl
theorem insA_app {x w : Nat} {a b : List Nat} : insA x w (a ++ b) = insA x w a ++ insA x w b := by unfold insA; rw [List.flatMap_append]
theorem insA_mid {x w : Nat} {l1 l2 : List Nat} (h : (l1 ++ x :: l2).Nodup) : insA x w (l1 ++ x :: l2) = l1 ++ x :: w :: l2 := by
  obtain ⟨_, h2, h3⟩ := List.nodup_append.mp h
  have n1 : x ∉ l1 := fun z => h3 x z x List.mem_cons_self rfl
  have n2 : x ∉ l2 := (List.nodup_cons.mp h2).1
  rw [insA_app, insA_off n1]
  show l1 ++ ((if x = x then [x, w] else [x]) ++ insA x w l2) = _
  rw [if_pos rfl, insA_off n2]; rfl
theorem mem_insA {x w a : Nat} {t : List Nat} (hx : x ∈ t) : a ∈ insA x w t ↔ a = w ∨ a ∈ t := by
  unfold insA
  rw [List.mem_flatMap]
  constructor
  · rintro ⟨z, hz, h⟩
    split at h
    · rename_i e
      have h : a = x ∨ a = w := by simpa using h
      rcases h with rfl | rfl
      · exact .inr hx
      · exact .inl rfl
    · rw [List.mem_singleton.mp h]; exact .inr hz
  · rintro (rfl | h)
    · exact ⟨x, hx, by rw [if_pos rfl]; simp⟩
    · refine ⟨a, h, ?_⟩
      split
      · rename_i e; rw [e]; simp
      · simp
theorem split_mem {x : Nat} {t : List Nat} (h : x ∈ t) : ∃ l1 l2, t = l1 ++ x :: l2 := List.append_of_mem h
theorem nodup_insA {x w : Nat} {t : List Nat} (h : t.Nodup) (hx : x ∈ t) (hw : w ∉ t) : (insA x w t).Nodup := by
  obtain ⟨l1, l2, rfl⟩ := split_mem hx
  rw [insA_mid h]
  obtain ⟨h1, h2, h3⟩ := List.nodup_append.mp h
  have h2' := List.nodup_cons.mp h2
  rw [List.nodup_append]
  refine ⟨h1, List.nodup_cons.mpr ⟨fun z => ?_, List.nodup_cons.mpr ⟨fun z => hw (by simp [z]), h2'.2⟩⟩, fun a ha b hb e => ?_⟩
  · rcases List.mem_cons.mp z with e | z
    · exact hw (by rw [← e]; simp)
    · exact h2'.1 z
  · subst e
    rcases List.mem_cons.mp hb with e | hb
    · exact h3 a ha x List.mem_cons_self e
    · rcases List.mem_cons.mp hb with e | hb
      · exact hw (by rw [← e]; simp [ha])
      · exact h3 a ha a (List.mem_cons_of_mem _ hb) rfl
theorem last_split {t : List Nat} (h : t ≠ []) : ∃ l x, t = l ++ [x] := ⟨t.dropLast, t.getLast h, (List.dropLast_concat_getLast h).symm⟩
/-- who stands behind x, told by the list -/
theorem succT_cases {t : List Nat} {x : Nat} (h : t.Nodup) (hx : x ∈ t) : (∃ l1 l2, t = l1 ++ x :: succT t x :: l2) ∨ (∃ l, t = l ++ [x] ∧ succT t x = t.headD 0) := by
  obtain ⟨l1, l2, rfl⟩ := split_mem hx
  cases l2 with
  | nil => exact .inr ⟨l1, rfl, succT_last h⟩
  | cons y l2 => exact .inl ⟨l1, l2, by rw [succT_mid h]⟩
theorem succT_insA_x {x w : Nat} {t : List Nat} (h : t.Nodup) (hx : x ∈ t) (hw : w ∉ t) : succT (insA x w t) x = w := by
  have hn := nodup_insA h hx hw
  obtain ⟨l1, l2, rfl⟩ := split_mem hx
  rw [insA_mid h] at hn ⊢
  exact succT_mid hn
theorem succT_insA_w {x w : Nat} {t : List Nat} (h : t.Nodup) (hx : x ∈ t) (hw : w ∉ t) : succT (insA x w t) w = succT t x := by
  have hn := nodup_insA h hx hw
  obtain ⟨l1, l2, rfl⟩ := split_mem hx
  rw [insA_mid h] at hn ⊢
  cases l2 with
  | nil =>
    rw [succT_last h, show l1 ++ [x, w] = (l1 ++ [x]) ++ [w] by simp] at *
    rw [succT_last hn]
    cases l1 <;> rfl
  | cons y l2 =>
    rw [succT_mid h, show l1 ++ x :: w :: y :: l2 = (l1 ++ [x]) ++ w :: y :: l2 by simp] at *
    exact succT_mid hn
theorem succT_insA_z {x w z : Nat} {t : List Nat} (h : t.Nodup) (hx : x ∈ t) (hw : w ∉ t) (hz : z ∈ t) (hzx : z ≠ x) : succT (insA x w t) z = succT t z := by
  have hn := nodup_insA h hx hw
  rcases succT_cases h hz with ⟨l1, l2, e⟩ | ⟨l, e, e2⟩
  · generalize succT t z = y at e
    subst e
    have e3 : insA x w (l1 ++ z :: y :: l2) = insA x w l1 ++ z :: (if y = x then [x, w] else [y]) ++ insA x w l2 := by
      rw [insA_app]
      show insA x w l1 ++ ((if z = x then [x, w] else [z]) ++ ((if y = x then [x, w] else [y]) ++ insA x w l2)) = _
      rw [if_neg hzx]; simp
    rw [e3] at hn ⊢
    by_cases c : y = x
    · rw [if_pos c] at hn ⊢
      subst c
      have e4 : insA y w l1 ++ z :: [y, w] ++ insA y w l2 = insA y w l1 ++ z :: y :: (w :: insA y w l2) := by simp
      rw [e4] at hn ⊢
      exact succT_mid hn
    · rw [if_neg c] at hn ⊢
      have e4 : insA x w l1 ++ z :: [y] ++ insA x w l2 = insA x w l1 ++ z :: y :: insA x w l2 := by simp
      rw [e4] at hn ⊢
      exact succT_mid hn
  · rw [e2]
    rw [e] at hn ⊢ hx
    rw [insA_app] at hn ⊢
    have e5 : insA x w [z] = [z] := by
      show (if z = x then [x, w] else [z]) ++ [] = _
      rw [if_neg hzx]; rfl
    rw [e5] at hn ⊢
    rw [succT_last hn]
    cases l with
    | nil => rfl
    | cons a l =>
      show ((if a = x then [x, w] else [a]) ++ insA x w l ++ [z]).headD 0 = _
      by_cases c : a = x
      · rw [if_pos c, c]; rfl
      · rw [if_neg c]; rfl
end DA

set_option Elab.async false
set_option linter.all false
set_option maxRecDepth 100000
set_option maxHeartbeats 1000000
set_option autoImplicit false
/-! fields: rings of points; a field parted by a way -/
namespace DB
open FW FM FN FB FT FR DA
/-- steps of a list, and corners -/
def dl : List Nat → List (Nat × Nat)
  | a :: b :: r => (a, b) :: dl (b :: r)
  | _ => []
def tl3 : List Nat → List (Nat × Nat × Nat)
  | a :: b :: c :: r => (a, b, c) :: tl3 (b :: c :: r)
  | _ => []
/-- .. of a ring -/
def rds (f : List Nat) : List (Nat × Nat) := dl (f ++ f.take 1)
def tri (f : List Nat) : List (Nat × Nat × Nat) := tl3 (f ++ f.take 2)
theorem dl_app : ∀ (a : List Nat) (x : Nat) (b : List Nat), dl (a ++ x :: b) = dl (a ++ [x]) ++ dl (x :: b)
  | [], x, b => rfl
  | [y], x, b => rfl
  | y :: z :: a, x, b => by
    show (y, z) :: dl (z :: a ++ x :: b) = (y, z) :: (dl (z :: a ++ [x]) ++ dl (x :: b))
    rw [dl_app (z :: a) x b]
theorem tl3_app : ∀ (a : List Nat) (x y : Nat) (b : List Nat), tl3 (a ++ x :: y :: b) = tl3 (a ++ [x, y]) ++ tl3 (x :: y :: b)
  | [], x, y, b => rfl
  | [z], x, y, b => rfl
  | z :: u :: a, x, y, b => by
    cases a with
    | nil => rfl
    | cons v a =>
      show (z, u, v) :: tl3 (u :: v :: a ++ x :: y :: b) = (z, u, v) :: (tl3 (u :: v :: a ++ [x, y]) ++ tl3 (x :: y :: b))
      rw [tl3_app (u :: v :: a) x y b]
theorem dl_rev : ∀ l : List Nat, dl l.reverse = ((dl l).map fun d => (d.2, d.1)).reverse
  | [] => rfl
  | [_] => rfl
  | a :: b :: r => by
    have h := dl_rev (b :: r)
    have e : (a :: b :: r).reverse = r.reverse ++ b :: [a] := by simp
    rw [e, dl_app]
    have e2 : r.reverse ++ [b] = (b :: r).reverse := by simp
    rw [e2, h]
    show _ ++ [(b, a)] = (((a, b) :: dl (b :: r)).map fun d => (d.2, d.1)).reverse
    rw [List.map_cons, List.reverse_cons]
theorem mem_dl {a b : Nat} : ∀ {l : List Nat}, (a, b) ∈ dl l ↔ ∃ l1 l2, l = l1 ++ a :: b :: l2
  | [] => ⟨fun h => (by cases h), fun ⟨l1, l2, e⟩ => (by simp at e)⟩
  | [x] => ⟨fun h => (by cases h), fun ⟨l1, l2, e⟩ => (by have := congrArg List.length e; simp at this; omega)⟩
  | x :: y :: r => by
    show (a, b) ∈ (x, y) :: dl (y :: r) ↔ _
    rw [List.mem_cons, mem_dl]
    constructor
    · rintro (h | ⟨l1, l2, e⟩)
      · rw [Prod.mk.injEq] at h
        exact ⟨[], r, by rw [h.1, h.2]; rfl⟩
      · exact ⟨x :: l1, l2, by rw [e]; rfl⟩
    · rintro ⟨l1, l2, e⟩
      cases l1 with
      | nil =>
        have e : x :: y :: r = a :: b :: l2 := e
        injection e with e1 e2
        injection e2 with e2 e3
        exact .inl (by rw [e1, e2])
      | cons z l1 =>
        injection e with e1 e2
        exact .inr ⟨l1, l2, e2⟩
theorem dl_mem {a b : Nat} {l : List Nat} (h : (a, b) ∈ dl l) : a ∈ l ∧ b ∈ l := by
  obtain ⟨l1, l2, rfl⟩ := mem_dl.mp h
  simp
theorem tl3_mem {t : Nat × Nat × Nat} : ∀ {l : List Nat}, t ∈ tl3 l → ∃ l1 l2, l = l1 ++ t.1 :: t.2.1 :: t.2.2 :: l2
  | [], h => by cases h
  | [_], h => by cases h
  | [_, _], h => by cases h
  | x :: y :: z :: r, h => by
    rcases List.mem_cons.mp (show t ∈ (x, y, z) :: tl3 (y :: z :: r) from h) with rfl | h
    · exact ⟨[], r, rfl⟩
    · obtain ⟨l1, l2, e⟩ := tl3_mem h
      exact ⟨x :: l1, l2, by rw [e]; rfl⟩
theorem tl3_of {l1 l2 : List Nat} {x y z : Nat} : (x, y, z) ∈ tl3 (l1 ++ x :: y :: z :: l2) := by
  rw [tl3_app]
  exact List.mem_append_right _ List.mem_cons_self
/-- parted: the two new rings -/
structure Cut (r0 rt : Nat) (P Q W : List Nat) : Prop where
  nd : (r0 :: P ++ rt :: Q).Nodup
  wd : W.Nodup
  new : ∀ w ∈ W, w ∉ r0 :: P ++ rt :: Q
def row (r0 rt : Nat) (P Q : List Nat) : List Nat := r0 :: P ++ rt :: Q
def cut1 (r0 rt : Nat) (P W : List Nat) : List Nat := r0 :: P ++ rt :: W.reverse
def cut2 (r0 rt : Nat) (Q W : List Nat) : List Nat := rt :: Q ++ r0 :: W
def wayL (r0 rt : Nat) (W : List Nat) : List Nat := r0 :: W ++ [rt]
theorem darts_row (r0 rt : Nat) (P Q : List Nat) : rds (row r0 rt P Q) = dl (r0 :: P ++ [rt]) ++ dl (rt :: Q ++ [r0]) := by
  unfold rds row
  show dl ((r0 :: P ++ rt :: Q) ++ [r0]) = _
  rw [List.append_assoc, List.cons_append (a := rt), dl_app]
theorem darts_cut1 (r0 rt : Nat) (P W : List Nat) : rds (cut1 r0 rt P W) = dl (r0 :: P ++ [rt]) ++ dl (rt :: W.reverse ++ [r0]) := darts_row r0 rt P W.reverse
theorem darts_cut2 (r0 rt : Nat) (Q W : List Nat) : rds (cut2 r0 rt Q W) = dl (rt :: Q ++ [r0]) ++ dl (r0 :: W ++ [rt]) := darts_row rt r0 Q W
theorem darts_cut (r0 rt : Nat) (P Q W : List Nat) : (rds (cut1 r0 rt P W) ++ rds (cut2 r0 rt Q W)).Perm (rds (row r0 rt P Q) ++ (dl (wayL r0 rt W) ++ dl (wayL r0 rt W).reverse)) := by
  rw [darts_row, darts_cut1, darts_cut2]
  have e : (wayL r0 rt W).reverse = rt :: W.reverse ++ [r0] := by unfold wayL; simp
  rw [e]
  unfold wayL
  generalize dl (r0 :: P ++ [rt]) = a
  generalize dl (rt :: W.reverse ++ [r0]) = b
  generalize dl (rt :: Q ++ [r0]) = c
  generalize dl (r0 :: W ++ [rt]) = d
  have h1 : (b ++ (c ++ d)).Perm (c ++ (d ++ b)) := by
    rw [← List.append_assoc c]
    exact List.perm_append_comm
  simp only [List.append_assoc]
  exact List.Perm.append_left a h1
/-- a ring turned: the same steps, the same corners -/
theorem darts_rot (a b : List Nat) : (rds (b ++ a)).Perm (rds (a ++ b)) := by
  cases a with
  | nil => simp
  | cons x a =>
    cases b with
    | nil => simp
    | cons y b =>
      have e1 : rds (x :: a ++ y :: b) = dl (x :: a ++ [y]) ++ dl (y :: b ++ [x]) := darts_row x y a b
      have e2 : rds (y :: b ++ x :: a) = dl (y :: b ++ [x]) ++ dl (x :: a ++ [y]) := darts_row y x b a
      rw [e1, e2]
      exact List.perm_append_comm
theorem dl_tgt {l : List Nat} {b x : Nat} (h : (l ++ [b]).Nodup) (m : (x, b) ∈ dl (l ++ [b])) : x = l.getLastD 0 ∧ l ≠ [] := by
  obtain ⟨l1, l2, e⟩ := mem_dl.mp m
  have e2 : l1 ++ x :: b :: l2 = (l1 ++ [x]) ++ b :: l2 := by simp
  have hn := h
  rw [e, e2] at hn
  have h3 := (List.nodup_append.mp hn)
  have hb : b ∉ l1 ++ [x] := fun z => h3.2.2 b z b List.mem_cons_self rfl
  have hl : l2 = [] := by
    rcases List.eq_nil_or_concat l2 with rfl | ⟨l2', y, rfl⟩
    · rfl
    · exfalso
      have e3 : l ++ [b] = (l1 ++ x :: b :: l2') ++ [y] := by rw [e]; simp
      obtain ⟨e4, e5⟩ := List.append_inj' e3 rfl
      injection e5 with e5
      have : b ∉ b :: (l2' ++ [y]) := fun z => by
        have := (List.nodup_cons.mp h3.2.1).1
        rw [← e5] at this
        exact this (by simp)
      exact this List.mem_cons_self
  subst hl
  have e3 : l ++ [b] = (l1 ++ [x]) ++ [b] := by rw [e]; simp
  obtain ⟨e4, _⟩ := List.append_inj' e3 rfl
  subst e4
  exact ⟨by simp [List.getLastD_eq_getLast?], by simp⟩
theorem dl_src {l : List Nat} {a y : Nat} (h : (a :: l).Nodup) (m : (a, y) ∈ dl (a :: l)) : y = l.headD 0 ∧ l ≠ [] := by
  obtain ⟨l1, l2, e⟩ := mem_dl.mp m
  cases l1 with
  | nil =>
    injection e with _ e
    subst e
    exact ⟨rfl, by simp⟩
  | cons z l1 =>
    exfalso
    injection e with e1 e2
    have := (List.nodup_cons.mp h).1
    rw [e2] at this
    exact this (by simp)
theorem dl_no_tgt {l : List Nat} {a x : Nat} (h : (a :: l).Nodup) : (x, a) ∉ dl (a :: l) := fun m => by
  obtain ⟨l1, l2, e⟩ := mem_dl.mp m
  cases l1 with
  | nil => injection e with e1 e2; have := (List.nodup_cons.mp h).1; rw [e2] at this; exact this (by simp)
  | cons z l1 => injection e with e1 e2; have := (List.nodup_cons.mp h).1; rw [e2] at this; exact this (by simp)
theorem dl_no_src {l : List Nat} {b y : Nat} (h : (l ++ [b]).Nodup) : (b, y) ∉ dl (l ++ [b]) := fun m => by
  have h2 : (b, y) ∈ dl (l ++ [b]) := m
  have hr : (y, b) ∈ dl (b :: l.reverse) := by
    have e : b :: l.reverse = (l ++ [b]).reverse := by simp
    rw [e, dl_rev, List.mem_reverse]
    exact List.mem_map.mpr ⟨_, h2, rfl⟩
  refine dl_no_tgt (l := l.reverse) ?_ hr
  have e : b :: l.reverse = (l ++ [b]).reverse := by simp
  rw [e]; exact List.pairwise_reverse.mpr (h.imp fun h e => h e.symm)
/-- the corners of the first new ring -/
theorem cor_cut1 {r0 rt : Nat} {P Q W : List Nat} (hc : Cut r0 rt P Q W) {T T' : Nat → List Nat} (hold : ∀ x p y, (x, p) ∈ rds (row r0 rt P Q) → (p, y) ∈ rds (row r0 rt P Q) → succT (T p) x = y)
    (h1 : ∀ p ∈ P, T' p = T p) (h2 : succT (T' rt) ((r0 :: P).getLastD 0) = (W.reverse ++ [r0]).headD 0)
    (h3 : ∀ p ∈ W, ∀ x y, (x, p) ∈ dl (rt :: W.reverse ++ [r0]) → (p, y) ∈ dl (rt :: W.reverse ++ [r0]) → succT (T' p) x = y)
    (h4 : succT (T' r0) ((rt :: W.reverse).getLastD 0) = (P ++ [rt]).headD 0) :
    ∀ x p y, (x, p) ∈ rds (cut1 r0 rt P W) → (p, y) ∈ rds (cut1 r0 rt P W) → succT (T' p) x = y := by
  have hnd := hc.nd
  have n1 : (r0 :: P ++ [rt]).Nodup := by
    have e : r0 :: P ++ rt :: Q = (r0 :: P ++ [rt]) ++ Q := by simp
    rw [e] at hnd
    exact (List.nodup_append.mp hnd).1
  have hrt : r0 ≠ rt := fun e => by subst e; exact (List.nodup_cons.mp n1).1 (by simp)
  have hPW : ∀ w ∈ W, w ≠ r0 ∧ w ≠ rt ∧ w ∉ P := fun w hw => by
    have := hc.new w hw
    simp at this
    exact ⟨this.1, this.2.2.1, this.2.1⟩
  have n2 : (rt :: W.reverse ++ [r0]).Nodup := by
    have hW := hc.wd
    rw [List.cons_append, List.nodup_cons]
    refine ⟨fun z => ?_, ?_⟩
    · simp at z
      rcases z with z | z
      · exact (hPW _ z).2.1 rfl
      · exact hrt z.symm
    · rw [List.nodup_append]
      refine ⟨List.pairwise_reverse.mpr (hW.imp fun h e => h e.symm), by simp, fun a ha b hb e => ?_⟩
      simp at ha hb
      subst hb
      exact (hPW a ha).1 e
  intro x p y hx hy
  rw [darts_cut1, List.mem_append] at hx hy
  rcases hx with hx | hx
  · -- into P or rt
    rcases hy with hy | hy
    · have hp : p ∈ P := by
        have e1 := (dl_mem hx).2
        simp at e1
        rcases e1 with rfl | e1 | rfl
        · exact absurd hx (dl_no_tgt n1)
        · exact e1
        · exact absurd hy (dl_no_src n1)
      rw [h1 p hp]
      exact hold x p y (by rw [darts_row]; exact List.mem_append_left _ hx) (by rw [darts_row]; exact List.mem_append_left _ hy)
    · have hp : p = rt := by
        have e1 := (dl_mem hx).2
        have e2 := (dl_mem hy).1
        simp at e1 e2
        rcases e1 with rfl | e1 | rfl
        · exact absurd hx (dl_no_tgt n1)
        · rcases e2 with rfl | e2 | rfl
          · rfl
          · exact absurd e1 (hPW _ e2).2.2
          · exact absurd hy (dl_no_src n2)
        · rfl
      subst hp
      rw [(dl_tgt n1 hx).1, (dl_src n2 hy).1]
      exact h2
  · rcases hy with hy | hy
    · have hp : p = r0 := by
        have e1 := (dl_mem hx).2
        have e2 := (dl_mem hy).1
        simp at e1 e2
        rcases e1 with rfl | e1 | rfl
        · exact absurd hx (dl_no_tgt n2)
        · rcases e2 with rfl | e2 | rfl
          · rfl
          · exact absurd e2 (hPW _ e1).2.2
          · exact absurd hy (dl_no_src n1)
        · rfl
      subst hp
      rw [(dl_tgt n2 hx).1, (dl_src n1 hy).1]
      exact h4
    · have hp : p ∈ W := by
        have e1 := (dl_mem hx).2
        have e2 := (dl_mem hy).1
        simp at e1 e2
        rcases e1 with rfl | e1 | rfl
        · exact absurd hx (dl_no_tgt n2)
        · exact e1
        · exact absurd hy (dl_no_src n2)
      exact h3 p hp x y hx hy
def prv (l : List Nat) (p : Nat) : Nat := l.getD (l.idxOf p - 1) 0
def nx (l : List Nat) (p : Nat) : Nat := l.getD (l.idxOf p + 1) 0
theorem dl_prv {l : List Nat} {x p : Nat} (h : l.Nodup) (m : (x, p) ∈ dl l) : x = prv l p := by
  obtain ⟨l1, l2, rfl⟩ := mem_dl.mp m
  have e : l1 ++ x :: p :: l2 = (l1 ++ [x]) ++ p :: l2 := by simp
  unfold prv
  rw [e] at h ⊢
  have hp : p ∉ l1 ++ [x] := fun z => (List.nodup_append.mp h).2.2 p z p List.mem_cons_self rfl
  rw [idxOf_mid hp, List.getD_eq_getElem?_getD, List.append_assoc, List.getElem?_append_right (by simp), show (l1 ++ [x]).length - 1 - l1.length = 0 by simp]; rfl
theorem dl_nx {l : List Nat} {p y : Nat} (h : l.Nodup) (m : (p, y) ∈ dl l) : y = nx l p := by
  obtain ⟨l1, l2, rfl⟩ := mem_dl.mp m
  unfold nx
  have hp : p ∉ l1 := fun z => (List.nodup_append.mp h).2.2 p z p List.mem_cons_self rfl
  rw [idxOf_mid hp, List.getD_eq_getElem?_getD, List.getElem?_append_right (by omega), show l1.length + 1 - l1.length = 1 by omega]; rfl
theorem dl_in {r0 rt p : Nat} {W : List Nat} (hp : p ∈ W) : (∃ x, (x, p) ∈ dl (wayL r0 rt W)) ∧ ∃ y, (p, y) ∈ dl (wayL r0 rt W) := by
  obtain ⟨A, B, rfl⟩ := split_mem hp
  unfold wayL
  constructor
  · obtain ⟨l, x, e⟩ := last_split (t := r0 :: A) (by simp)
    refine ⟨x, mem_dl.mpr ⟨l, B ++ [rt], ?_⟩⟩
    have : r0 :: (A ++ p :: B) ++ [rt] = (r0 :: A) ++ p :: (B ++ [rt]) := by simp
    rw [this, e]; simp
  · cases B with
    | nil => exact ⟨rt, mem_dl.mpr ⟨r0 :: A, [], by simp⟩⟩
    | cons b B => exact ⟨b, mem_dl.mpr ⟨r0 :: A, B ++ [rt], by simp⟩⟩
def pT (d : Nat × Nat) : Tie := pairOf d.1 d.2
theorem pT_eq {a b c d : Nat} : pairOf a b = pairOf c d ↔ (a = c ∧ b = d) ∨ (a = d ∧ b = c) := by
  unfold pairOf; rw [Prod.mk.injEq]; omega
theorem pT_comm (a b : Nat) : pairOf a b = pairOf b a := pT_eq.mpr (.inr ⟨rfl, rfl⟩)
/-- turns whose rings are the fields -/
structure Emb (T : Nat → List Nat) (laid : List Tie) (fields : List (List Nat)) : Prop where
  nd : ∀ p, (T p).Nodup
  mem : ∀ p a, a ∈ T p ↔ a ≠ p ∧ pairOf p a ∈ laid
  fnd : ∀ f ∈ fields, f.Nodup ∧ 2 ≤ f.length
  cor : ∀ f ∈ fields, ∀ x p y, (x, p) ∈ rds f → (p, y) ∈ rds f → succT (T p) x = y
  dnd : (fields.flatMap rds).Nodup
  dmem : ∀ a b, (a, b) ∈ fields.flatMap rds ↔ a ≠ b ∧ pairOf a b ∈ laid
noncomputable def layT (T : Nat → List Nat) (r0 rt : Nat) (P Q W : List Nat) (p : Nat) : List Nat :=
  if p = r0 then insA ((rt :: Q).getLastD 0) ((W ++ [rt]).headD 0) (T r0) else
  if p = rt then insA ((r0 :: P).getLastD 0) ((r0 :: W).getLastD 0) (T rt) else
  if p ∈ W then [prv (wayL r0 rt W) p, nx (wayL r0 rt W) p] else T p
theorem succ2 {a b : Nat} (h : a ≠ b) : succT [a, b] a = b ∧ succT [a, b] b = a := by
  have hn : [a, b].Nodup := by simp [h]
  exact ⟨succT_mid (l1 := []) (l2 := []) hn, succT_last (l := [a]) hn⟩
theorem lastD_rev (l : List Nat) : l.reverse.getLastD 0 = l.headD 0 := by
  cases l with
  | nil => rfl
  | cons a l => simp [List.getLastD_eq_getLast?]
theorem headD_rev (l : List Nat) : l.reverse.headD 0 = l.getLastD 0 := by
  rw [← lastD_rev, List.reverse_reverse]
theorem dl_hd {r0 rt : Nat} {W : List Nat} : (r0, (W ++ [rt]).headD 0) ∈ dl (wayL r0 rt W) := by
  cases W with
  | nil => exact List.mem_cons_self
  | cons w W => exact List.mem_cons_self
theorem dl_lst {r0 rt : Nat} {W : List Nat} : ((r0 :: W).getLastD 0, rt) ∈ dl (wayL r0 rt W) := by
  obtain ⟨l, x, e⟩ := last_split (t := r0 :: W) (by simp)
  unfold wayL
  rw [e]
  exact mem_dl.mpr ⟨l, [], by simp [List.getLastD_eq_getLast?]⟩
theorem Emb.lay {T : Nat → List Nat} {laid : List Tie} {fields rest rest' : List (List Nat)} {F : List Nat} {r0 rt : Nat} {P Q W : List Nat} (h : Emb T laid fields) (hp : fields.Perm (F :: rest)) (hr : rest'.Perm rest)
    (hF : (rds F).Perm (rds (row r0 rt P Q))) (hc : Cut r0 rt P Q W) (hW : ∀ w ∈ W, ∀ a, pairOf w a ∉ laid) (hway : ∀ d ∈ dl (wayL r0 rt W), pT d ∉ laid) :
    Emb (layT T r0 rt P Q W) (laid ++ (dl (wayL r0 rt W)).map pT) (rest' ++ [cut1 r0 rt P W, cut2 r0 rt Q W]) := by
  have hFm : F ∈ fields := hp.mem_iff.mpr List.mem_cons_self
  have hnd := hc.nd
  have hrt : r0 ≠ rt := fun e => by subst e; exact (List.nodup_cons.mp hnd).1 (by simp)
  have hWn : ∀ w ∈ W, w ≠ r0 ∧ w ≠ rt ∧ w ∉ P ∧ w ∉ Q := fun w hw => by
    have := hc.new w hw
    simp at this
    exact ⟨this.1, this.2.2.1, this.2.1, this.2.2.2⟩
  have hP : ∀ p ∈ P, p ≠ r0 ∧ p ≠ rt ∧ p ∉ W := fun p hp' => by
    refine ⟨fun e => ?_, fun e => ?_, fun z => (hWn p z).2.2.1 hp'⟩
    · subst e; exact (List.nodup_cons.mp hnd).1 (by simp [hp'])
    · subst e
      have := (List.nodup_append.mp hnd).2.2 p (List.mem_cons_of_mem _ hp') p List.mem_cons_self
      exact this rfl
  have hQ : ∀ p ∈ Q, p ≠ r0 ∧ p ≠ rt ∧ p ∉ W := fun p hp' => by
    refine ⟨fun e => ?_, fun e => ?_, fun z => (hWn p z).2.2.2 hp'⟩
    · subst e; exact (List.nodup_cons.mp hnd).1 (by simp [hp'])
    · subst e
      have := (List.nodup_append.mp hnd).2.1
      exact (List.nodup_cons.mp this).1 hp'
  have wnd : (wayL r0 rt W).Nodup := by
    unfold wayL
    rw [List.cons_append, List.nodup_cons]
    refine ⟨fun z => ?_, ?_⟩
    · simp at z
      rcases z with z | z
      · exact (hWn _ z).1 rfl
      · exact hrt z
    · rw [List.nodup_append]
      refine ⟨hc.wd, by simp, fun a ha b hb e => ?_⟩
      simp at hb
      subst hb
      exact (hWn a ha).2.1 e
  have wrnd : (wayL r0 rt W).reverse.Nodup := List.pairwise_reverse.mpr (wnd.imp fun h e => h e.symm)
  have erev : (wayL r0 rt W).reverse = rt :: W.reverse ++ [r0] := by unfold wayL; simp
  have hdne : ∀ d ∈ dl (wayL r0 rt W), d.1 ≠ d.2 := fun d hd e => by
    obtain ⟨l1, l2, e2⟩ := mem_dl.mp (show (d.1, d.2) ∈ _ from hd)
    rw [e2] at wnd
    have := (List.nodup_cons.mp (List.nodup_append.mp wnd).2.1).1
    exact this (by rw [e]; simp)
  -- the old steps at the ends
  have hold : ∀ x p y, (x, p) ∈ rds (row r0 rt P Q) → (p, y) ∈ rds (row r0 rt P Q) → succT (T p) x = y := fun x p y hx hy => h.cor F hFm x p y (hF.mem_iff.mpr hx) (hF.mem_iff.mpr hy)
  have hin : ∀ x p, (x, p) ∈ rds (row r0 rt P Q) → x ∈ T p := fun x p hx => by
    have := (h.dmem x p).mp (List.mem_flatMap.mpr ⟨F, hFm, hF.mem_iff.mpr hx⟩)
    exact (h.mem p x).mpr ⟨this.1, by rw [pT_comm]; exact this.2⟩
  have q0 : ((rt :: Q).getLastD 0, r0) ∈ rds (row r0 rt P Q) := by
    rw [darts_row]; exact List.mem_append_right _ (dl_lst (r0 := rt) (rt := r0) (W := Q))
  have u0 : (r0, (P ++ [rt]).headD 0) ∈ rds (row r0 rt P Q) := by
    rw [darts_row]; exact List.mem_append_left _ (dl_hd (r0 := r0) (rt := rt) (W := P))
  have qt : ((r0 :: P).getLastD 0, rt) ∈ rds (row r0 rt P Q) := by
    rw [darts_row]; exact List.mem_append_left _ (dl_lst (r0 := r0) (rt := rt) (W := P))
  have ut : (rt, (Q ++ [r0]).headD 0) ∈ rds (row r0 rt P Q) := by
    rw [darts_row]; exact List.mem_append_right _ (dl_hd (r0 := rt) (rt := r0) (W := Q))
  have d0 : (r0, (W ++ [rt]).headD 0) ∈ dl (wayL r0 rt W) := dl_hd
  have dt : ((r0 :: W).getLastD 0, rt) ∈ dl (wayL r0 rt W) := dl_lst
  have w0n : (W ++ [rt]).headD 0 ∉ T r0 := fun z => hway _ d0 ((h.mem r0 _).mp z).2
  have wtn : (r0 :: W).getLastD 0 ∉ T rt := fun z => hway _ dt (by unfold pT; dsimp only; rw [pT_comm]; exact ((h.mem rt _).mp z).2)
  have T0 : layT T r0 rt P Q W r0 = insA ((rt :: Q).getLastD 0) ((W ++ [rt]).headD 0) (T r0) := if_pos rfl
  have Tt : layT T r0 rt P Q W rt = insA ((r0 :: P).getLastD 0) ((r0 :: W).getLastD 0) (T rt) := by
    unfold layT; rw [if_neg (Ne.symm hrt), if_pos rfl]
  have TW : ∀ p ∈ W, layT T r0 rt P Q W p = [prv (wayL r0 rt W) p, nx (wayL r0 rt W) p] := fun p hp' => by
    unfold layT; rw [if_neg (hWn p hp').1, if_neg (hWn p hp').2.1, if_pos hp']
  have TO : ∀ p, p ≠ r0 → p ≠ rt → p ∉ W → layT T r0 rt P Q W p = T p := fun p a b c => by
    unfold layT; rw [if_neg a, if_neg b, if_neg c]
  have hpn : ∀ p ∈ W, prv (wayL r0 rt W) p ≠ nx (wayL r0 rt W) p := fun p hp' e => by
    obtain ⟨⟨x, hx⟩, ⟨y, hy⟩⟩ := dl_in (r0 := r0) (rt := rt) hp'
    have ex := dl_prv wnd hx
    have ey := dl_nx wnd hy
    rw [← ex, ← ey] at e
    subst e
    obtain ⟨l1, l2, e1⟩ := mem_dl.mp hx
    rw [e1] at hy wnd
    have e2 : l1 ++ x :: p :: l2 = (l1 ++ [x]) ++ p :: l2 := by simp
    rw [e2, dl_app] at hy
    rcases List.mem_append.mp hy with hy | hy
    · rw [e2] at wnd
      have : (l1 ++ [x] ++ [p]).Nodup := by
        have e3 : l1 ++ [x] ++ p :: l2 = (l1 ++ [x] ++ [p]) ++ l2 := by simp
        rw [e3] at wnd; exact (List.nodup_append.mp wnd).1
      exact dl_no_src this hy
    · have := (dl_mem hy).2
      rw [e2] at wnd
      exact (List.nodup_append.mp wnd).2.2 x (by simp) x this rfl
  have hbk : ∀ a b, (a, b) ∈ dl (wayL r0 rt W).reverse ↔ (b, a) ∈ dl (wayL r0 rt W) := fun a b => by
    rw [dl_rev, List.mem_reverse, List.mem_map]
    exact ⟨fun ⟨d, hd, e⟩ => by rw [Prod.mk.injEq] at e; rw [← e.1, ← e.2]; exact hd, fun hd => ⟨_, hd, rfl⟩⟩
  have hpl : ∀ p a, pairOf p a ∈ (dl (wayL r0 rt W)).map pT ↔ (p, a) ∈ dl (wayL r0 rt W) ∨ (a, p) ∈ dl (wayL r0 rt W) := fun p a => by
    rw [List.mem_map]
    constructor
    · rintro ⟨d, hd, e⟩
      rcases pT_eq.mp e with ⟨e1, e2⟩ | ⟨e1, e2⟩
      · left; rw [← e1, ← e2]; exact hd
      · right; rw [← e1, ← e2]; exact hd
    · rintro (hd | hd)
      · exact ⟨_, hd, rfl⟩
      · exact ⟨_, hd, pT_comm _ _⟩
  refine ⟨fun p => ?_, fun p a => ?_, fun f hf => ?_, fun f hf => ?_, ?_, fun a b => ?_⟩
  · by_cases c0 : p = r0
    · subst c0; rw [T0]; exact nodup_insA (h.nd _) (hin _ _ q0) w0n
    · by_cases ct : p = rt
      · subst ct; rw [Tt]; exact nodup_insA (h.nd _) (hin _ _ qt) wtn
      · by_cases cw : p ∈ W
        · rw [TW p cw]; simp [hpn p cw]
        · rw [TO p c0 ct cw]; exact h.nd p
  · rw [List.mem_append, hpl]
    by_cases c0 : p = r0
    · subst c0
      rw [T0, mem_insA (hin _ _ q0), h.mem]
      constructor
      · rintro (e | ⟨e1, e2⟩)
        · subst e; exact ⟨(hdne _ d0).symm, .inr (.inl d0)⟩
        · exact ⟨e1, .inl e2⟩
      · rintro ⟨e1, e2 | e2 | e2⟩
        · exact .inr ⟨e1, e2⟩
        · exact .inl (dl_src (l := W ++ [rt]) (by simpa [wayL] using wnd) (by simpa [wayL] using e2)).1
        · exact absurd e2 (dl_no_tgt (l := W ++ [rt]) (by simpa [wayL] using wnd))
    · by_cases ct : p = rt
      · subst ct
        rw [Tt, mem_insA (hin _ _ qt), h.mem]
        constructor
        · rintro (e | ⟨e1, e2⟩)
          · subst e; exact ⟨hdne _ dt, .inr (.inr dt)⟩
          · exact ⟨e1, .inl e2⟩
        · rintro ⟨e1, e2 | e2 | e2⟩
          · exact .inr ⟨e1, e2⟩
          · exact absurd e2 (dl_no_src (l := r0 :: W) (by simpa [wayL] using wnd))
          · exact .inl (dl_tgt (l := r0 :: W) (by simpa [wayL] using wnd) (by simpa [wayL] using e2)).1
      · by_cases cw : p ∈ W
        · rw [TW p cw]
          obtain ⟨⟨x, hx⟩, ⟨y, hy⟩⟩ := dl_in (r0 := r0) (rt := rt) cw
          rw [← dl_prv wnd hx, ← dl_nx wnd hy]
          constructor
          · intro e
            have e : a = x ∨ a = y := by simpa using e
            rcases e with rfl | rfl
            · exact ⟨hdne _ hx, .inr (.inr hx)⟩
            · exact ⟨(hdne _ hy).symm, .inr (.inl hy)⟩
          · rintro ⟨e1, e2 | e2 | e2⟩
            · exact absurd e2 (hW p cw a)
            · rw [dl_nx wnd hy, ← dl_nx wnd e2]; simp
            · rw [dl_prv wnd hx, ← dl_prv wnd e2]; simp
        · rw [TO p c0 ct cw, h.mem]
          have hno : ∀ a, (p, a) ∉ dl (wayL r0 rt W) ∧ (a, p) ∉ dl (wayL r0 rt W) := fun a => by
            have hm : p ∉ wayL r0 rt W := by unfold wayL; simp [c0, ct, cw]
            exact ⟨fun z => hm (dl_mem z).1, fun z => hm (dl_mem z).2⟩
          constructor
          · rintro ⟨e1, e2⟩; exact ⟨e1, .inl e2⟩
          · rintro ⟨e1, e2 | e2 | e2⟩
            · exact ⟨e1, e2⟩
            · exact absurd e2 (hno a).1
            · exact absurd e2 (hno a).2
  · rcases List.mem_append.mp hf with hf | hf
    · exact h.fnd f (hp.mem_iff.mpr (List.mem_cons_of_mem _ (hr.mem_iff.mp hf)))
    · have hone : ∀ {A : List Nat} {a b : Nat}, (a, b) ∈ rds (row r0 rt P Q) → (W = [] → pT (a, b) ∈ (dl (wayL r0 rt W)).map pT) → A = [] → W ≠ [] := fun {A a b} hd hw _ hW0 => by
        obtain ⟨d, hd2, e⟩ := List.mem_map.mp (hw hW0)
        refine hway d hd2 ?_
        rw [e]
        exact ((h.dmem a b).mp (List.mem_flatMap.mpr ⟨F, hFm, hF.mem_iff.mpr hd⟩)).2
      have key1 : P ≠ [] ∨ W ≠ [] := by
        by_cases c : P = []
        · right
          subst c
          exact hone (A := []) (a := r0) (b := rt) (by simpa using u0) (fun hw => by subst hw; simp [wayL, dl, pT]) rfl
        · exact .inl c
      have key2 : Q ≠ [] ∨ W ≠ [] := by
        by_cases c : Q = []
        · right
          subst c
          exact hone (A := []) (a := rt) (b := r0) (by simpa using ut) (fun hw => by subst hw; simp [wayL, dl, pT, pT_comm rt r0]) rfl
        · exact .inl c
      have hpos : ∀ l : List Nat, l ≠ [] → 1 ≤ l.length := fun l hl => by cases l with | nil => exact absurd rfl hl | cons => simp
      have hf : f = cut1 r0 rt P W ∨ f = cut2 r0 rt Q W := by simpa using hf
      rcases hf with rfl | rfl
      · refine ⟨?_, ?_⟩
        · unfold cut1
          have e1 : (r0 :: P ++ [rt]).Nodup := by
            have e : r0 :: P ++ rt :: Q = (r0 :: P ++ [rt]) ++ Q := by simp
            rw [e] at hnd; exact (List.nodup_append.mp hnd).1
          have e2 : r0 :: P ++ rt :: W.reverse = (r0 :: P ++ [rt]) ++ W.reverse := by simp
          rw [e2, List.nodup_append]
          refine ⟨e1, List.pairwise_reverse.mpr (hc.wd.imp fun h e => h e.symm), fun a ha b hb e => ?_⟩
          subst e
          have := hWn a (List.mem_reverse.mp hb)
          simp at ha
          rcases ha with ha | ha | ha
          · exact this.1 ha
          · exact this.2.2.1 ha
          · exact this.2.1 ha
        · unfold cut1
          simp
          omega
      · refine ⟨?_, ?_⟩
        · unfold cut2
          have e1 : (rt :: Q ++ [r0]).Nodup := by
            have h2 := (List.nodup_append.mp hnd)
            rw [List.nodup_append]
            refine ⟨h2.2.1, by simp, fun a ha b hb e => ?_⟩
            simp at hb
            subst hb
            exact h2.2.2 b List.mem_cons_self a ha e.symm
          have e2 : rt :: Q ++ r0 :: W = (rt :: Q ++ [r0]) ++ W := by simp
          rw [e2, List.nodup_append]
          refine ⟨e1, hc.wd, fun a ha b hb e => ?_⟩
          subst e
          have := hWn a hb
          simp at ha
          rcases ha with ha | ha | ha
          · exact this.2.1 ha
          · exact this.2.2.2 ha
          · exact this.1 ha
        · unfold cut2
          simp
          omega
  · rcases List.mem_append.mp hf with hf | hf
    · -- other fields keep their corners
      have hfm : f ∈ fields := hp.mem_iff.mpr (List.mem_cons_of_mem _ (hr.mem_iff.mp hf))
      have hdis : ∀ d, d ∈ rds f → d ∉ rds (row r0 rt P Q) := fun d h1 h2 => by
        have hn := h.dnd
        have hn2 : ((F :: rest).flatMap rds).Nodup := (hp.flatMap_right rds).nodup_iff.mp hn
        rw [List.flatMap_cons, List.nodup_append] at hn2
        exact hn2.2.2 d (hF.mem_iff.mpr h2) d (List.mem_flatMap.mpr ⟨f, hr.mem_iff.mp hf, h1⟩) rfl
      intro x p y hx hy
      have hs := h.cor f hfm x p y hx hy
      have hxT : x ∈ T p := by
        have := (h.dmem x p).mp (List.mem_flatMap.mpr ⟨f, hfm, hx⟩)
        exact (h.mem p x).mpr ⟨this.1, by rw [pT_comm]; exact this.2⟩
      by_cases c0 : p = r0
      · subst c0
        rw [T0, succT_insA_z (h.nd _) (hin _ _ q0) w0n hxT (fun e => hdis _ hx (by rw [e]; exact q0))]
        exact hs
      · by_cases ct : p = rt
        · subst ct
          rw [Tt, succT_insA_z (h.nd _) (hin _ _ qt) wtn hxT (fun e => hdis _ hx (by rw [e]; exact qt))]
          exact hs
        · by_cases cw : p ∈ W
          · exact absurd ((h.mem p x).mp hxT).2 (hW p cw x)
          · rw [TO p c0 ct cw]; exact hs
    · have hf : f = cut1 r0 rt P W ∨ f = cut2 r0 rt Q W := by simpa using hf
      rcases hf with rfl | rfl
      · refine cor_cut1 hc hold (fun p hp' => TO p (hP p hp').1 (hP p hp').2.1 (hP p hp').2.2) ?_ (fun p hp' x y hx hy => ?_) ?_
        · rw [Tt, succT_insA_x (h.nd _) (hin _ _ qt) wtn]
          have e : W.reverse ++ [r0] = (r0 :: W).reverse := by simp
          rw [e, headD_rev]
        · rw [TW p hp']
          have e1 : (p, x) ∈ dl (wayL r0 rt W) := (hbk x p).mp (by rw [erev]; exact hx)
          have e2 : (y, p) ∈ dl (wayL r0 rt W) := (hbk p y).mp (by rw [erev]; exact hy)
          rw [dl_nx wnd e1, dl_prv wnd e2]
          exact (succ2 (hpn p hp')).2
        · have e : rt :: W.reverse = (W ++ [rt]).reverse := by simp
          rw [e, lastD_rev, T0, succT_insA_w (h.nd _) (hin _ _ q0) w0n]
          exact hold _ _ _ q0 u0
      · have hc' : Cut rt r0 Q P W.reverse := by
          refine ⟨?_, List.pairwise_reverse.mpr (hc.wd.imp fun h e => h e.symm), fun w hw z => ?_⟩
          · have : (rt :: Q ++ r0 :: P).Perm (r0 :: P ++ rt :: Q) := List.perm_append_comm
            exact this.nodup_iff.mpr hnd
          · exact hc.new w (List.mem_reverse.mp hw) (List.perm_append_comm.mem_iff.mp z)
        have e0 : cut2 r0 rt Q W = cut1 rt r0 Q W.reverse := by unfold cut1 cut2; rw [List.reverse_reverse]
        rw [e0]
        have hold' : ∀ x p y, (x, p) ∈ rds (row rt r0 Q P) → (p, y) ∈ rds (row rt r0 Q P) → succT (T p) x = y := fun x p y hx hy => by
          have hpm : ∀ d, d ∈ rds (row rt r0 Q P) ↔ d ∈ rds (row r0 rt P Q) := fun d => by
            rw [darts_row, darts_row, List.mem_append, List.mem_append]; exact Or.comm
          exact hold x p y ((hpm _).mp hx) ((hpm _).mp hy)
        refine cor_cut1 hc' hold' (fun p hp' => TO p (hQ p hp').1 (hQ p hp').2.1 (hQ p hp').2.2) ?_ (fun p hp' x y hx hy => ?_) ?_
        · rw [T0, succT_insA_x (h.nd _) (hin _ _ q0) w0n, List.reverse_reverse]
        · rw [TW p (List.mem_reverse.mp hp')]
          rw [List.reverse_reverse] at hx hy
          have e1 : (x, p) ∈ dl (wayL r0 rt W) := hx
          have e2 : (p, y) ∈ dl (wayL r0 rt W) := hy
          rw [dl_prv wnd e1, dl_nx wnd e2]
          exact (succ2 (hpn p (List.mem_reverse.mp hp'))).1
        · rw [List.reverse_reverse, Tt, succT_insA_w (h.nd _) (hin _ _ qt) wtn]
          exact hold _ _ _ qt ut
  · -- all steps once
    have hpm : ((rest' ++ [cut1 r0 rt P W, cut2 r0 rt Q W]).flatMap rds).Perm (fields.flatMap rds ++ (dl (wayL r0 rt W) ++ dl (wayL r0 rt W).reverse)) := by
      rw [List.flatMap_append]
      have e1 : [cut1 r0 rt P W, cut2 r0 rt Q W].flatMap rds = rds (cut1 r0 rt P W) ++ rds (cut2 r0 rt Q W) := by simp
      rw [e1]
      have p1 := darts_cut r0 rt P Q W
      have p2 : (fields.flatMap rds).Perm (rds (row r0 rt P Q) ++ rest'.flatMap rds) := by
        refine (hp.flatMap_right rds).trans ?_
        rw [List.flatMap_cons]
        exact hF.append ((hr.symm).flatMap_right rds)
      refine (List.Perm.append_left _ p1).trans ?_
      rw [← List.append_assoc]
      exact (List.perm_append_comm.trans p2.symm).append_right _
    refine hpm.nodup_iff.mpr ?_
    have hb2 : ∀ l : List Nat, l.Nodup → (dl l).Nodup := fun l => by
      induction l with
      | nil => intro _; exact List.nodup_nil
      | cons x l ih =>
        intro hn
        cases l with
        | nil => exact List.nodup_nil
        | cons y l =>
          refine List.nodup_cons.mpr ⟨fun z => ?_, ih (List.nodup_cons.mp hn).2⟩
          exact (List.nodup_cons.mp hn).1 (dl_mem z).1
    rw [List.nodup_append]
    refine ⟨h.dnd, ?_, fun d hd e he z => ?_⟩
    · rw [List.nodup_append]
      refine ⟨hb2 _ wnd, hb2 _ wrnd, fun d hd e he z => ?_⟩
      subst z
      have h2 : (d.2, d.1) ∈ dl (wayL r0 rt W) := (hbk d.1 d.2).mp he
      obtain ⟨l1, l2, e1⟩ := mem_dl.mp (show (d.1, d.2) ∈ dl (wayL r0 rt W) from hd)
      have a1 := dl_prv wnd (show (d.1, d.2) ∈ _ from hd)
      have n1 := dl_nx wnd (show (d.1, d.2) ∈ _ from hd)
      have n2 := dl_nx wnd h2
      rw [e1] at wnd h2
      have e2 : l1 ++ d.1 :: d.2 :: l2 = (l1 ++ [d.1]) ++ d.2 :: l2 := by simp
      rw [e2, dl_app] at h2
      rw [e2] at wnd
      rcases List.mem_append.mp h2 with h2 | h2
      · have : (l1 ++ [d.1] ++ [d.2]).Nodup := by
          have e3 : l1 ++ [d.1] ++ d.2 :: l2 = (l1 ++ [d.1] ++ [d.2]) ++ l2 := by simp
          rw [e3] at wnd; exact (List.nodup_append.mp wnd).1
        exact dl_no_src this h2
      · exact (List.nodup_append.mp wnd).2.2 d.1 (by simp) d.1 (dl_mem h2).2 rfl
    · subst z
      have h1 := (h.dmem d.1 d.2).mp hd
      rcases List.mem_append.mp he with he | he
      · exact hway d he h1.2
      · have := (hbk d.1 d.2).mp he
        refine hway _ this ?_
        unfold pT
        dsimp only
        rw [pT_comm]; exact h1.2
  · have hpm : ∀ d, d ∈ (rest' ++ [cut1 r0 rt P W, cut2 r0 rt Q W]).flatMap rds ↔ d ∈ fields.flatMap rds ∨ (d ∈ dl (wayL r0 rt W) ∨ d ∈ dl (wayL r0 rt W).reverse) := fun d => by
      have p1 : ∀ d, d ∈ rds (cut1 r0 rt P W) ++ rds (cut2 r0 rt Q W) ↔ _ := fun d => (darts_cut r0 rt P Q W).mem_iff (a := d)
      have p2 : d ∈ fields.flatMap rds ↔ d ∈ rds (row r0 rt P Q) ∨ d ∈ rest'.flatMap rds := by
        rw [(hp.flatMap_right rds).mem_iff, List.flatMap_cons, List.mem_append, hF.mem_iff, (hr.flatMap_right rds).mem_iff]
      have e1 : [cut1 r0 rt P W, cut2 r0 rt Q W].flatMap rds = rds (cut1 r0 rt P W) ++ rds (cut2 r0 rt Q W) := by simp
      rw [List.flatMap_append, List.mem_append, e1, p1, List.mem_append, List.mem_append, p2]
      exact ⟨fun z => z.elim (fun z => .inl (.inr z)) fun z => z.elim (fun z => .inl (.inl z)) .inr, fun z => z.elim (fun z => z.elim (fun z => .inr (.inl z)) .inl) fun z => .inr (.inr z)⟩
    rw [hpm, h.dmem, List.mem_append, hpl, hbk]
    constructor
    · rintro (⟨h1, h2⟩ | h1 | h1)
      · exact ⟨h1, .inl h2⟩
      · exact ⟨hdne _ h1, .inr (.inl h1)⟩
      · exact ⟨(hdne _ h1).symm, .inr (.inr h1)⟩
    · rintro ⟨h1, h2 | h2 | h2⟩
      · exact .inl ⟨h1, h2⟩
      · exact .inr (.inl h2)
      · exact .inr (.inr h2)
end DB

set_option Elab.async false
set_option linter.all false
set_option maxRecDepth 100000
set_option maxHeartbeats 1000000
set_option autoImplicit false
/-! ways in a web; a block holds together without any one point -/
namespace DC
open FW FM FN FB FT FR DA DB
def Way (near : List (List Nat)) (l : List Nat) : Prop := ∀ d ∈ dl l, d.2 ∈ near.getD d.1 []
theorem Way.app {near : List (List Nat)} {a b : List Nat} {x : Nat} : Way near (a ++ x :: b) ↔ Way near (a ++ [x]) ∧ Way near (x :: b) := by
  unfold Way
  rw [dl_app]
  exact ⟨fun h => ⟨fun d hd => h d (List.mem_append_left _ hd), fun d hd => h d (List.mem_append_right _ hd)⟩, fun h d hd => (List.mem_append.mp hd).elim (h.1 d) (h.2 d)⟩
theorem Way.one {near : List (List Nat)} {x : Nat} : Way near [x] := fun d hd => by cases hd
theorem Way.cons {near : List (List Nat)} {x y : Nat} {l : List Nat} : Way near (x :: y :: l) ↔ y ∈ near.getD x [] ∧ Way near (y :: l) := by
  constructor
  · exact fun h => ⟨h (x, y) List.mem_cons_self, fun d hd => h d (List.mem_cons_of_mem _ hd)⟩
  · rintro ⟨h1, h2⟩ d hd
    rcases List.mem_cons.mp (show d ∈ (x, y) :: dl (y :: l) from hd) with rfl | hd
    · exact h1
    · exact h2 d hd
theorem reach_front {near : List (List Nat)} {bar : Nat → Bool} {s x y : Nat} (h1 : x ∈ near.getD s []) (h2 : bar x = false) (h3 : Reach near bar x y) : Reach near bar s y := reach_trans (Reach.base.step h1 h2) h3
theorem lastD_snoc (l : List Nat) (y : Nat) : (l ++ [y]).getLastD 0 = y := by simp [List.getLastD_eq_getLast?]
theorem reach_bar {near : List (List Nat)} {bar : Nat → Bool} {s x : Nat} (h : Reach near bar s x) : x = s ∨ bar x = false := by
  cases h with
  | base => exact .inl rfl
  | step _ _ h => exact .inr h
theorem reach_mono {near near' : List (List Nat)} {bar bar' : Nat → Bool} (hn : ∀ x y, y ∈ near.getD x [] → bar y = false → y ∈ near'.getD x []) (hb : ∀ x, bar x = false → bar' x = false) {s x : Nat} (h : Reach near bar s x) : Reach near' bar' s x := by
  induction h with
  | base => exact .base
  | step _ h3 h4 ih => exact ih.step (hn _ _ h3 h4) (hb _ h4)
/-- a way is reached along -/
theorem Way.reach {near : List (List Nat)} {bar : Nat → Bool} : ∀ {l : List Nat} {s x : Nat}, Way near (s :: l) → (∀ y ∈ l, bar y = false) → x ∈ s :: l → Reach near bar s x
  | [], s, x, _, _, hx => by rw [List.mem_singleton.mp hx]; exact .base
  | y :: l, s, x, h, hb, hx => by
    obtain ⟨h1, h2⟩ := Way.cons.mp h
    rcases List.mem_cons.mp hx with rfl | hx
    · exact .base
    · exact reach_front h1 (hb y List.mem_cons_self) (Way.reach h2 (fun z hz => hb z (List.mem_cons_of_mem _ hz)) hx)
/-- .. and what is reached, is so along a way that meets no point twice -/
theorem reach_way {near : List (List Nat)} {bar : Nat → Bool} {s x : Nat} (h : Reach near bar s x) : ∃ l, (s :: l).Nodup ∧ (s :: l).getLastD 0 = x ∧ Way near (s :: l) ∧ ∀ y ∈ l, bar y = false := by
  induction h with
  | base => exact ⟨[], by simp, rfl, Way.one, fun _ h => by cases h⟩
  | step h1 h3 h4 ih =>
    rename_i x y
    obtain ⟨l, e1, e2, e3, e4⟩ := ih
    by_cases c : y ∈ s :: l
    · obtain ⟨l1, l2, e⟩ := split_mem c
      cases l1 with
      | nil =>
        injection e with e5 e6
        exact ⟨[], by simp, e5, Way.one, fun _ h => by cases h⟩
      | cons z l1 =>
        have e5 : z = s := by injection e with e5; exact e5.symm
        subst e5
        have e6 : l = l1 ++ y :: l2 := by injection e
        rw [e] at e1 e3
        have hsub : ∀ u ∈ l1 ++ [y], u ∈ l := fun u hu => by
          rw [e6]
          rcases List.mem_append.mp hu with h | h
          · simp [h]
          · rw [List.mem_singleton.mp h]; simp
        refine ⟨l1 ++ [y], ?_, ?_, ?_, fun u hu => e4 u (hsub u hu)⟩
        · have e7 : z :: l1 ++ y :: l2 = (z :: (l1 ++ [y])) ++ l2 := by simp
          rw [e7] at e1
          exact (List.nodup_append.mp e1).1
        · exact lastD_snoc (z :: l1) y
        · exact (Way.app.mp e3).1
    · refine ⟨l ++ [y], ?_, lastD_snoc (s :: l) y, ?_, fun u hu => ?_⟩
      · have e7 : s :: (l ++ [y]) = (s :: l) ++ [y] := rfl
        rw [e7, List.nodup_append]
        exact ⟨e1, by simp, fun a ha b hb e => by simp at hb; subst hb; subst e; exact c ha⟩
      · obtain ⟨l', z, e8⟩ := last_split (t := s :: l) (by simp)
        have ez : z = x := by rw [← e2, e8, lastD_snoc]
        subst ez
        have e7 : s :: (l ++ [y]) = l' ++ z :: [y] := by
          have : s :: (l ++ [y]) = (s :: l) ++ [y] := rfl
          rw [this, e8]; simp
        rw [e7]
        refine Way.app.mpr ⟨by rw [← e8]; exact e3, Way.cons.mpr ⟨h3, Way.one⟩⟩
      · rcases List.mem_append.mp hu with hu | hu
        · exact e4 u hu
        · rw [List.mem_singleton.mp hu]; exact h4
/-! ### ties that lie on one ring go together -/
def rotL (c : List Nat) : Nat → List Nat
  | 0 => c
  | k + 1 => (rotL c k).tail ++ (rotL c k).take 1
theorem rot_perm (c : List Nat) : ∀ k, (rotL c k).Perm c
  | 0 => List.Perm.refl _
  | k + 1 => by
    have h := rot_perm c k
    show ((rotL c k).tail ++ (rotL c k).take 1).Perm c
    cases e : rotL c k with
    | nil => rw [e] at h; exact h
    | cons x l =>
      rw [e] at h
      exact (List.perm_append_comm (l₁ := l) (l₂ := [x])).trans h
/-- a ring: each step is a tie, the last one too -/
def Ring (near : List (List Nat)) (c : List Nat) : Prop := c.Nodup ∧ 3 ≤ c.length ∧ ∀ d ∈ rds c, d.2 ∈ near.getD d.1 []
theorem Ring.rot {near : List (List Nat)} {c : List Nat} (h : Ring near c) : ∀ k, Ring near (rotL c k)
  | 0 => h
  | k + 1 => by
    have h1 := Ring.rot h k
    obtain ⟨n1, l1, d1⟩ := h1
    have hp : ((rotL c k).tail ++ (rotL c k).take 1).Perm (rotL c k) := by
      cases rotL c k with
      | nil => exact List.Perm.refl _
      | cons x l => exact List.perm_append_comm (l₁ := l) (l₂ := [x])
    refine ⟨hp.nodup_iff.mpr n1, by show 3 ≤ ((rotL c k).tail ++ (rotL c k).take 1).length; rw [hp.length_eq]; exact l1, fun d hd => d1 d ?_⟩
    have : ∀ l : List Nat, ∀ d, d ∈ rds (l.tail ++ l.take 1) → d ∈ rds l := fun l d hd => by
      cases l with
      | nil => exact hd
      | cons x l => exact (darts_rot [x] l).mem_iff.mp hd
    exact this _ d hd
theorem ring_split {near : List (List Nat)} {v w : Nat} {l : List Nat} (h : Ring near (v :: w :: l)) : Way near (v :: w :: l) ∧ v ∈ near.getD ((w :: l).getLastD 0) [] ∧ (w :: l).Nodup ∧ v ∉ w :: l ∧ l ≠ [] := by
  obtain ⟨n, len, d⟩ := h
  obtain ⟨l', z, e⟩ := last_split (t := w :: l) (by simp)
  have hd : ∀ x, x ∈ dl (v :: w :: l ++ [v]) → x ∈ rds (v :: w :: l) := fun x hx => hx
  refine ⟨fun x hx => d x (hd x ?_), ?_, (List.nodup_cons.mp n).2, (List.nodup_cons.mp n).1, fun z => by subst z; simp at len⟩
  · have e1 : v :: w :: l ++ [v] = (v :: l') ++ z :: [v] := by rw [List.cons_append, e]; simp
    rw [e1, dl_app]
    have e2 : v :: l' ++ [z] = v :: w :: l := by rw [List.cons_append, ← e]
    rw [e2]
    exact List.mem_append_left _ hx
  · have e1 : v :: w :: l ++ [v] = (v :: l') ++ z :: v :: [] := by rw [List.cons_append, e]; simp
    rw [e, lastD_snoc]
    exact d (z, v) (hd _ (by rw [e1]; exact mem_dl.mpr ⟨_, _, rfl⟩))
theorem ring_step {near : List (List Nat)} (hs : ∀ x y, y ∈ near.getD x [] → x ∈ near.getD y []) {v w : Nat} {l : List Nat} (h : Ring near (v :: w :: l)) : BRel near (pairOf v w) (pairOf v ((w :: l).getLastD 0)) := by
  obtain ⟨h1, h2, h3, h4, h5⟩ := ring_split h
  obtain ⟨h6, h7⟩ := Way.cons.mp h1
  refine .step h6 (hs _ _ h2) (Way.reach h7 (fun y hy => ?_) ?_)
  · simp
    exact fun e => h4 (by rw [← e]; exact List.mem_cons_of_mem _ hy)
  · obtain ⟨l', z, e⟩ := last_split (t := w :: l) (by simp)
    rw [e, lastD_snoc]; simp
theorem ring_shape {near : List (List Nat)} {c : List Nat} (h : Ring near c) : ∃ v w l, c = v :: w :: l := by
  match c, h.2.1 with
  | v :: w :: l, _ => exact ⟨v, w, l, rfl⟩
def fst2 (c : List Nat) : Tie := pairOf (c.getD 0 0) (c.getD 1 0)
theorem ring_rel {near : List (List Nat)} (hs : ∀ x y, y ∈ near.getD x [] → x ∈ near.getD y []) {c : List Nat} (h : Ring near c) : ∀ k, BRel near (fst2 c) (fst2 (rotL c k))
  | 0 => .refl _
  | k + 1 => by
    refine .trans (ring_rel hs h k) ?_
    have hr := h.rot k
    have hr2 := h.rot (k + 1)
    obtain ⟨v, w, l, e⟩ := ring_shape hr
    have e2 : rotL c (k + 1) = w :: (l ++ [v]) := by show (rotL c k).tail ++ (rotL c k).take 1 = _; rw [e]; rfl
    rw [e] at hr ⊢
    rw [e2] at hr2 ⊢
    have hl := (ring_split hr).2.2.2.2
    cases l with
    | nil => exact absurd rfl hl
    | cons u l =>
      have h3 : BRel near (pairOf w u) (pairOf w (((u :: l) ++ [v]).getLastD 0)) := ring_step hs hr2
      rw [lastD_snoc] at h3
      have e5 : fst2 (v :: w :: u :: l) = pairOf w v := pT_comm v w
      rw [e5]
      exact h3.symm
theorem rot_at {c : List Nat} : ∀ (k : Nat) {l1 l2 : List Nat}, c = l1 ++ l2 → l1.length = k → rotL c k = l2 ++ l1
  | 0, l1, l2, h, hk => by
    have : l1 = [] := List.eq_nil_of_length_eq_zero hk
    subst this; rw [h]; simp [rotL]
  | k + 1, l1, l2, h, hk => by
    obtain ⟨l, x, e⟩ := last_split (t := l1) (by intro z; subst z; simp at hk)
    subst e
    have := rot_at (c := c) k (l1 := l) (l2 := x :: l2) (by rw [h]; simp) (by simpa using hk)
    show (rotL c k).tail ++ (rotL c k).take 1 = _
    rw [this]; simp
/-- each tie of the ring goes with the first -/
theorem ring_all {near : List (List Nat)} (hs : ∀ x y, y ∈ near.getD x [] → x ∈ near.getD y []) {c : List Nat} (h : Ring near c) {d : Nat × Nat} (hd : d ∈ dl c) : BRel near (fst2 c) (pT d) := by
  obtain ⟨l1, l2, e⟩ := mem_dl.mp (show (d.1, d.2) ∈ dl c from hd)
  have := ring_rel hs h l1.length
  rw [rot_at l1.length e rfl] at this
  exact this
/-! ### blocks -/
abbrev N16 (B : List Tie) : List (List Nat) := nearOf 16 B
def Pt (B : List Tie) (x : Nat) : Prop := ∃ t ∈ B, x = t.1 ∨ x = t.2
structure Blk (B : List Tie) : Prop where
  nrm : Nrm 16 B
  hold : ∀ p x y, Pt B x → Pt B y → x ≠ p → y ≠ p → Reach (N16 B) (fun z => decide (z = p)) x y
theorem adjB {n : Nat} {B : List Tie} (h : Nrm n B) {x y : Nat} : y ∈ (nearOf n B).getD x [] ↔ pairOf x y ∈ B := by
  rw [nearOf_mem n B (fun s hs => by have := h.rng s hs; omega)]
  constructor
  · rintro (e | e)
    · have := h.rng _ e
      dsimp only at this
      rw [show pairOf x y = (x, y) by unfold pairOf; rw [Nat.min_eq_left (by omega), Nat.max_eq_right (by omega)]]; exact e
    · have := h.rng _ e
      dsimp only at this
      rw [show pairOf x y = (y, x) by unfold pairOf; rw [Nat.min_eq_right (by omega), Nat.max_eq_left (by omega)]]; exact e
  · intro e
    unfold pairOf at e
    rcases Nat.le_total x y with c | c
    · rw [Nat.min_eq_left c, Nat.max_eq_right c] at e; exact .inl e
    · rw [Nat.min_eq_right c, Nat.max_eq_left c] at e; exact .inr e
theorem nrm_sub {n : Nat} {T : List Tie} (h : Nrm n T) (hn : n ≤ 16) (f : Tie → Bool) : Nrm 16 (T.filter f) := ⟨fun t ht => by
  have := h.rng t (List.mem_filter.mp ht).1; omega, by
  have := h.pw
  rw [List.pairwise_map] at this ⊢
  exact this.filter f⟩
theorem tie_pair {n : Nat} {T : List Tie} (h : Nrm n T) {t : Tie} (ht : t ∈ T) : t = pairOf t.1 t.2 := by
  have := h.rng t ht
  unfold pairOf
  rw [Nat.min_eq_left (by omega), Nat.max_eq_right (by omega)]
section
variable {n : Nat} {ts : List Tie}
theorem brel_ties (g : Good n ts) {s t : Tie} (h : BRel (nearOf n ts) s t) : s ∈ tiesOf n (nearOf n ts) ↔ t ∈ tiesOf n (nearOf n ts) := by
  induction h with
  | refl => exact Iff.rfl
  | step h1 h2 _ => exact ⟨fun _ => (mem_near g h2).2.2.2, fun _ => (mem_near g h1).2.2.2⟩
  | symm _ ih => exact ih.symm
  | trans _ _ ih1 ih2 => exact ih1.trans ih2
/-- a class of ties that go together -/
structure Cls (n : Nat) (ts : List Tie) (B : List Tie) : Prop where
  g : Good n ts
  n16 : n ≤ 16
  nrm : Nrm 16 B
  sub : ∀ t ∈ B, t ∈ tiesOf n (nearOf n ts)
  cls : ∀ s t, s ∈ B → t ∈ tiesOf n (nearOf n ts) → BRel (nearOf n ts) s t → t ∈ B
  rel : ∀ s t, s ∈ B → t ∈ B → BRel (nearOf n ts) s t
variable {B : List Tie}
theorem Cls.loc (h : Cls n ts B) {q a b : Nat} (ha : pairOf q a ∈ B) (ha' : a ∈ (nearOf n ts).getD q []) (hb' : b ∈ (nearOf n ts).getD q []) (hr : Reach (nearOf n ts) (fun y => decide (y = q)) a b) : Reach (N16 B) (fun y => decide (y = q)) a b := by
  have hsym := near_sym h.g
  obtain ⟨l, e1, e2, e3, e4⟩ := reach_way hr
  have haq := (mem_near h.g ha').2.2.1
  have hq : ∀ y ∈ a :: l, y ≠ q := fun y hy => by
    rcases List.mem_cons.mp hy with rfl | hy
    · exact haq
    · have := e4 y hy; simpa using this
  cases hl : l with
  | nil => subst hl; rw [← e2]; exact .base
  | cons c l' =>
    -- the ring q, a, .., b
    have hring : Ring (nearOf n ts) (q :: a :: l) := by
      refine ⟨List.nodup_cons.mpr ⟨fun z => hq q z rfl, e1⟩, by rw [hl]; simp, fun d hd => ?_⟩
      obtain ⟨l1, z, e⟩ := last_split (t := a :: l) (by simp)
      have ez : z = b := by rw [← e2, e, lastD_snoc]
      subst ez
      have e5 : rds (q :: a :: l) = dl ((q :: l1) ++ z :: [q]) := by
        show dl (q :: a :: l ++ [q]) = _
        rw [List.cons_append, e]; simp
      rw [e5, dl_app] at hd
      rcases List.mem_append.mp hd with hd | hd
      · have e6 : q :: l1 ++ [z] = q :: a :: l := by rw [List.cons_append, ← e]
        rw [e6] at hd
        exact (Way.cons.mpr ⟨ha', e3⟩) d hd
      · have hd : d = (z, q) := by simpa [dl] using hd
        subst hd
        exact hsym _ _ hb'
    have hB : ∀ d ∈ dl (a :: l), pT d ∈ B := fun d hd => by
      have h1 := ring_all hsym hring (d := d) (List.mem_cons_of_mem _ hd)
      have h2 := e3 d hd
      exact h.cls _ _ ha (mem_near h.g h2).2.2.2 h1
    have hw : Way (N16 B) (a :: l) := fun d hd => (adjB h.nrm).mpr (hB d hd)
    refine Way.reach hw (fun y hy => by simpa using hq y (List.mem_cons_of_mem _ hy)) ?_
    obtain ⟨l1, z, e⟩ := last_split (t := a :: l) (by simp)
    rw [← e2, e, lastD_snoc]; simp
theorem symB (h : Nrm 16 B) : ∀ x y, y ∈ (N16 B).getD x [] → x ∈ (N16 B).getD y [] := fun x y hxy => (adjB h).mpr (by rw [pT_comm]; exact (adjB h).mp hxy)
theorem Cls.hold (h : Cls n ts B) {s t : Tie} (hr : BRel (nearOf n ts) s t) : (s ∈ B ↔ t ∈ B) ∧ (s ∈ B → ∀ p x y, (x = s.1 ∨ x = s.2) → (y = t.1 ∨ y = t.2) → x ≠ p → y ≠ p → Reach (N16 B) (fun z => decide (z = p)) x y) := by
  have hiff : ∀ {s t}, BRel (nearOf n ts) s t → (s ∈ B ↔ t ∈ B) := fun {s t} hr => ⟨fun hs => h.cls s t hs ((brel_ties h.g hr).mp (h.sub s hs)) hr, fun ht => h.cls t s ht ((brel_ties h.g hr).mpr (h.sub t ht)) hr.symm⟩
  have hbar : ∀ {p z : Nat}, z ≠ p → (fun z => decide (z = p)) z = false := fun hz => by simpa using hz
  refine ⟨hiff hr, ?_⟩
  have pe : ∀ {q a x : Nat}, (x = (pairOf q a).1 ∨ x = (pairOf q a).2) → x = q ∨ x = a := fun {q a x} hx => by unfold pairOf at hx; dsimp only at hx; omega
  induction hr with
  | refl t =>
    intro hs p x y hx hy hxp hyp
    have e := tie_pair h.nrm hs
    by_cases c : x = y
    · subst c; exact .base
    · refine Reach.base.step ((adjB h.nrm).mpr ?_) (hbar hyp)
      have : pairOf x y = t := by
        rw [e]
        refine pT_eq.mpr ?_
        rcases hx with rfl | rfl <;> rcases hy with rfl | rfl
        · exact absurd rfl c
        · exact .inl ⟨rfl, rfl⟩
        · exact .inr ⟨rfl, rfl⟩
        · exact absurd rfl c
      rw [this]; exact hs
  | @step q a b h1 h2 h3 =>
    intro hs p x y hx hy hxp hyp
    have ht : pairOf q b ∈ B := (hiff (.step h1 h2 h3)).mp hs
    have qa := (adjB h.nrm).mpr hs
    have qb := (adjB h.nrm).mpr ht
    have aq := symB h.nrm _ _ qa
    by_cases c : q = p
    · subst c
      rcases pe hx with rfl | rfl
      · exact absurd rfl hxp
      · rcases pe hy with rfl | rfl
        · exact absurd rfl hyp
        · exact h.loc hs h1 h2 h3
    · rcases pe hx with rfl | rfl
      · rcases pe hy with rfl | rfl
        · exact .base
        · exact Reach.base.step qb (hbar hyp)
      · rcases pe hy with rfl | rfl
        · exact Reach.base.step aq (hbar hyp)
        · exact (Reach.base.step aq (hbar c)).step qb (hbar hyp)
  | @symm s t h1 ih =>
    intro hs p x y hx hy hxp hyp
    exact (reach_symm (symB h.nrm) (hbar hyp) (ih ((hiff h1).mpr hs) p y x hy hx hyp hxp)).2
  | @trans s t u h1 h2 ih1 ih2 =>
    intro hs p x y hx hy hxp hyp
    have ht := (hiff h1).mp hs
    have hne := (h.nrm.rng t ht).1
    obtain ⟨z, hz, hzp⟩ : ∃ z, (z = t.1 ∨ z = t.2) ∧ z ≠ p := by
      by_cases c : t.1 = p
      · exact ⟨t.2, .inr rfl, by omega⟩
      · exact ⟨t.1, .inl rfl, c⟩
    exact reach_trans (ih1 hs p x z hx hz hxp hzp) (ih2 ht p z y hz hy hzp hyp)
theorem Cls.blk (h : Cls n ts B) : Blk B := ⟨h.nrm, fun p x y ⟨s, hs, hx⟩ ⟨t, ht, hy⟩ hxp hyp => (h.hold (h.rel s t hs ht)).2 hs p x y hx hy hxp hyp⟩
/-- what blocks() tells -/
theorem blk_cls (g : Good n ts) (hn : n ≤ 16) : ∀ B ∈ blk n (nearOf n ts), Cls n ts B := fun B hB => by
  unfold FB.blk FN.rowsOf at hB
  obtain ⟨k, hk, rfl⟩ := List.mem_map.mp hB
  have hkl := List.mem_range.mp (List.mem_filter.mp hk).1
  have hN := tiesOf_nrm g
  refine ⟨g, hn, nrm_sub hN hn _, fun t ht => (List.mem_filter.mp ht).1, fun s t hs ht hr => ?_, fun s t hs ht => ?_⟩
  · have h1 := bR_iff.mp (List.mem_filter.mp hs).2
    exact List.mem_filter.mpr ⟨ht, bR_iff.mpr (.trans h1 hr)⟩
  · have h1 := bR_iff.mp (List.mem_filter.mp hs).2
    have h2 := bR_iff.mp (List.mem_filter.mp ht).2
    exact .trans (.symm h1) h2
end
end DC

set_option Elab.async false
set_option linter.all false
set_option maxRecDepth 100000
set_option maxHeartbeats 1000000
set_option autoImplicit false
/-! how a block is drawn, step by step -/
namespace DD
open FW FM FN FB FT FR DA DB DC
theorem Emb.congr {T : Nat → List Nat} {laid laid' : List Tie} {fields fields' : List (List Nat)} (h : Emb T laid fields) (hl : ∀ t, t ∈ laid' ↔ t ∈ laid) (hp : (fields'.flatMap rds).Perm (fields.flatMap rds))
    (hf : ∀ f' ∈ fields', (f'.Nodup ∧ 2 ≤ f'.length) ∧ ∃ f ∈ fields, ∀ d ∈ rds f', d ∈ rds f) : Emb T laid' fields' :=
  ⟨h.nd, fun p a => by rw [h.mem, hl], fun f hf' => (hf f hf').1, fun f' hf' x p y hx hy => by
    obtain ⟨_, f, hm, hd⟩ := hf f' hf'
    exact h.cor f hm x p y (hd _ hx) (hd _ hy), hp.nodup_iff.mpr h.dnd, fun a b => by rw [hp.mem_iff, h.dmem, hl]⟩
/-- points that ties meet -/
def pl (laid : List Tie) (x : Nat) : Bool := laid.any fun t => decide (x = t.1) || decide (x = t.2)
theorem pl_iff {laid : List Tie} {x : Nat} : pl laid x = true ↔ Pt laid x := by
  unfold pl Pt
  rw [List.any_eq_true]
  simp
theorem pt_pair {laid : List Tie} {a b : Nat} (h : pairOf a b ∈ laid) : Pt laid a ∧ Pt laid b := by
  refine ⟨⟨_, h, ?_⟩, ⟨_, h, ?_⟩⟩ <;> unfold pairOf <;> dsimp only <;> omega
theorem pt_other {n : Nat} {B : List Tie} (h : Nrm n B) {x : Nat} (hx : Pt B x) : ∃ y, pairOf x y ∈ B ∧ x ≠ y := by
  obtain ⟨t, ht, e⟩ := hx
  have h1 := tie_pair h ht
  have h2 := (h.rng t ht).1
  rcases e with rfl | rfl
  · exact ⟨t.2, by rw [← h1]; exact ht, by omega⟩
  · exact ⟨t.1, by rw [pT_comm, ← h1]; exact ht, by omega⟩
/-- the ring's ties, in the order in which they are laid -/
def ringT (R : List Nat) : List Tie := (dl (R.getLastD 0 :: R)).map pT
/-- a way from s through inner to a goal -/
def IsWay (near : List (List Nat)) (s : Nat) (goals inner way : List Nat) : Prop := ∃ e W, e ∈ goals ∧ way = wayL s e W ∧ way.Nodup ∧ (∀ w ∈ W, w ∈ inner) ∧ Way near way ∧ (inner ≠ [] → W ≠ [])
def Piece (B laid : List Tie) (ends inner : List Nat) : Prop :=
  (inner = [] ∧ ∃ t ∈ B, t ∉ laid ∧ Pt laid t.1 ∧ Pt laid t.2 ∧ ends = [t.1, t.2]) ∨
  (∃ p, Pt B p ∧ ¬ Pt laid p ∧ (∀ x, x ∈ inner ↔ Reach (N16 B) (pl laid) p x) ∧ inner.Nodup ∧ ends.Nodup ∧ ∀ e, e ∈ ends ↔ Pt laid e ∧ ∃ x ∈ inner, pairOf x e ∈ B)
def fits (fields : List (List Nat)) (ends : List Nat) : List Nat := (List.range fields.length).filter fun k => ends.all fun e => decide (e ∈ fields.getD k [])
def mid (l : List Nat) : List Nat := (l.drop 1).take (l.length - 2)
def rotTo (f : List Nat) (a : Nat) : List Nat := f.drop (f.idxOf a) ++ f.take (f.idxOf a)
def partedL (f way : List Nat) : List (List Nat) :=
  [(rotTo f (way.headD 0)).take ((rotTo f (way.headD 0)).idxOf (way.getLastD 0) + 1) ++ (mid way).reverse,
   (rotTo f (way.headD 0)).drop ((rotTo f (way.headD 0)).idxOf (way.getLastD 0)) ++ [(rotTo f (way.headD 0)).getD 0 0] ++ mid way]
inductive Run (B : List Tie) : List (List Nat) → List Tie → Prop
  | start {r0 rt : Nat} {P : List Nat} : pairOf r0 rt ∈ B → P ≠ [] → (wayL r0 rt P).Nodup → Way (N16 B) (wayL r0 rt P) → Run B [wayL r0 rt P, (wayL r0 rt P).reverse] (ringT (wayL r0 rt P))
  | step {fields : List (List Nat)} {laid : List Tie} {ends inner way : List Nat} {i : Nat} : Run B fields laid → Piece B laid ends inner →
      (∀ ends' inner', Piece B laid ends' inner' → (fits fields ends).length ≤ (fits fields ends').length) →
      IsWay (N16 B) (ends.headD 0) ends.tail inner way → i ∈ fits fields ends → Run B (fields.eraseIdx i ++ partedL (fields.getD i []) way) (laid ++ (dl way).map pT)
theorem mem_fits {fields : List (List Nat)} {ends : List Nat} {i : Nat} : i ∈ fits fields ends ↔ i < fields.length ∧ ∀ e ∈ ends, e ∈ fields.getD i [] := by
  unfold fits
  rw [List.mem_filter, List.mem_range, List.all_eq_true]
  simp
theorem mid_way (r0 rt : Nat) (W : List Nat) : mid (wayL r0 rt W) = W := by
  unfold mid wayL
  simp
/-- a field parted at a way's ends -/
theorem parted_eq {f : List Nat} {r0 rt : Nat} {W : List Nat} (h : f.Nodup) (h0 : r0 ∈ f) (ht : rt ∈ f) (hne : r0 ≠ rt) : ∃ P Q, (rds f).Perm (rds (row r0 rt P Q)) ∧ (row r0 rt P Q).Perm f ∧ partedL f (wayL r0 rt W) = [cut1 r0 rt P W, cut2 r0 rt Q W] := by
  obtain ⟨a, b, rfl⟩ := split_mem h0
  have ha : r0 ∉ a := fun z => (List.nodup_append.mp h).2.2 r0 z r0 List.mem_cons_self rfl
  have hrot : rotTo (a ++ r0 :: b) r0 = r0 :: (b ++ a) := by
    unfold rotTo
    rw [idxOf_mid ha, List.drop_left, List.take_left]; rfl
  have hperm : (r0 :: (b ++ a)).Perm (a ++ r0 :: b) := List.perm_append_comm (l₁ := r0 :: b) (l₂ := a)
  have hm : rt ∈ b ++ a := by
    have := hperm.mem_iff.mpr ht
    rcases List.mem_cons.mp this with e | e
    · exact absurd e.symm hne
    · exact e
  obtain ⟨P, Q, e⟩ := split_mem hm
  have hrow : r0 :: (b ++ a) = row r0 rt P Q := by unfold row; rw [e]; rfl
  have hn2 : (row r0 rt P Q).Nodup := by rw [← hrow]; exact hperm.nodup_iff.mpr h
  have hP : rt ∉ r0 :: P := fun z => (List.nodup_append.mp (show (r0 :: P ++ rt :: Q).Nodup from hn2)).2.2 rt z rt List.mem_cons_self rfl
  refine ⟨P, Q, ?_, by rw [← hrow]; exact hperm, ?_⟩
  · rw [← hrow]
    exact (darts_rot (r0 :: b) a).trans (List.Perm.refl _)
  · unfold partedL
    have e1 : (wayL r0 rt W).headD 0 = r0 := rfl
    have e2 : (wayL r0 rt W).getLastD 0 = rt := lastD_snoc (r0 :: W) rt
    rw [e1, e2, hrot, hrow, mid_way]
    have e3 : (row r0 rt P Q).idxOf rt = (r0 :: P).length := idxOf_mid hP
    rw [e3]
    have e4 : (row r0 rt P Q).take ((r0 :: P).length + 1) = r0 :: P ++ [rt] := by
      unfold row
      rw [show r0 :: P ++ rt :: Q = (r0 :: P ++ [rt]) ++ Q by simp, show (r0 :: P).length + 1 = (r0 :: P ++ [rt]).length by simp, List.take_left]
    have e5 : (row r0 rt P Q).drop ((r0 :: P).length) = rt :: Q := by unfold row; rw [List.drop_left]
    have e6 : (row r0 rt P Q).getD 0 0 = r0 := rfl
    rw [e4, e5, e6]
    unfold cut1 cut2
    simp
/-! ### what holds all along -/
theorem dl_ne {l : List Nat} (h : l.Nodup) {d : Nat × Nat} (hd : d ∈ dl l) : d.1 ≠ d.2 := fun e => by
  obtain ⟨l1, l2, e2⟩ := mem_dl.mp (show (d.1, d.2) ∈ _ from hd)
  rw [e2] at h
  exact (List.nodup_cons.mp (List.nodup_append.mp h).2.1).1 (by rw [e]; simp)
theorem ties_nd : ∀ {l : List Nat}, l.Nodup → ((dl l).map pT).Nodup
  | [], _ => List.nodup_nil
  | [_], _ => List.nodup_nil
  | x :: y :: r, h => by
    have hn := List.nodup_cons.mp h
    refine List.nodup_cons.mpr ⟨fun z => ?_, ties_nd hn.2⟩
    obtain ⟨d, hd, e⟩ := List.mem_map.mp z
    have hm := dl_mem (show (d.1, d.2) ∈ dl (y :: r) from hd)
    rcases pT_eq.mp (show pairOf d.1 d.2 = pairOf x y from e) with ⟨e1, e2⟩ | ⟨e1, e2⟩
    · exact hn.1 (e1 ▸ hm.1)
    · exact hn.1 (e2 ▸ hm.2)
theorem darts_src {f : List Nat} {x : Nat} (h : x ∈ f) : ∃ y, (x, y) ∈ rds f := by
  obtain ⟨a, b, rfl⟩ := split_mem h
  unfold rds
  cases b with
  | nil =>
    cases a with
    | nil => exact ⟨x, mem_dl.mpr ⟨[], [], rfl⟩⟩
    | cons z a => exact ⟨z, mem_dl.mpr ⟨z :: a, [], by simp⟩⟩
  | cons y b => exact ⟨y, mem_dl.mpr ⟨a, b ++ (a ++ x :: y :: b).take 1, by simp⟩⟩
theorem emb_placed {T : Nat → List Nat} {laid : List Tie} {fields : List (List Nat)} (h : Emb T laid fields) {f : List Nat} (hf : f ∈ fields) {x : Nat} (hx : x ∈ f) : Pt laid x := by
  obtain ⟨y, hy⟩ := darts_src hx
  exact (pt_pair ((h.dmem x y).mp (List.mem_flatMap.mpr ⟨f, hf, hy⟩)).2).1
structure RunOk (B : List Tie) (fields : List (List Nat)) (laid : List Tie) : Prop where
  emb : ∃ T, Emb T laid fields
  sub : ∀ t ∈ laid, t ∈ B
  nd : laid.Nodup
  two : ∃ a b, a ≠ b ∧ Pt laid a ∧ Pt laid b
theorem emb2 {r0 rt : Nat} (h : r0 ≠ rt) : Emb (fun p => if p = r0 then [rt] else if p = rt then [r0] else []) [pairOf r0 rt] [[r0, rt]] where
  nd := fun p => by
    split
    · simp
    · split <;> simp
  mem := fun p a => by
    rw [List.mem_singleton, pT_eq]
    by_cases c : p = r0
    · subst c
      rw [if_pos rfl, List.mem_singleton]
      constructor
      · rintro rfl; exact ⟨Ne.symm h, .inl ⟨rfl, rfl⟩⟩
      · rintro ⟨h1, ⟨_, h2⟩ | ⟨h2, h3⟩⟩
        · exact h2
        · exact absurd h2 h
    · rw [if_neg c]
      by_cases d : p = rt
      · subst d
        rw [if_pos rfl, List.mem_singleton]
        constructor
        · rintro rfl; exact ⟨h, .inr ⟨rfl, rfl⟩⟩
        · rintro ⟨h1, ⟨h2, _⟩ | ⟨_, h3⟩⟩
          · exact absurd h2 c
          · exact h3
      · rw [if_neg d]
        constructor
        · intro z; cases z
        · rintro ⟨h1, ⟨h2, _⟩ | ⟨h2, _⟩⟩
          · exact absurd h2 c
          · exact absurd h2 d
  fnd := fun f hf => by rw [List.mem_singleton.mp hf]; exact ⟨by simp [h], by simp⟩
  cor := fun f hf x p y hx hy => by
    rw [List.mem_singleton.mp hf] at hx hy
    have hx : (x, p) = (r0, rt) ∨ (x, p) = (rt, r0) := by simpa [rds, dl] using hx
    have hy : (p, y) = (r0, rt) ∨ (p, y) = (rt, r0) := by simpa [rds, dl] using hy
    simp only [Prod.mk.injEq] at hx hy
    have e1 : ∀ z, succT [z] z = z := fun z => succT_last (l := []) (by simp)
    rcases hx with ⟨rfl, rfl⟩ | ⟨rfl, rfl⟩
    · rcases hy with ⟨h1, _⟩ | ⟨_, rfl⟩
      · exact absurd h1.symm h
      · rw [if_neg (Ne.symm h), if_pos rfl]; exact e1 _
    · rcases hy with ⟨_, rfl⟩ | ⟨h1, _⟩
      · rw [if_pos rfl]; exact e1 _
      · exact absurd h1 h
  dnd := by simp [rds, dl, h, Ne.symm h]
  dmem := fun a b => by
    rw [List.mem_singleton, pT_eq]
    simp [rds, dl]
    rintro (⟨rfl, rfl⟩ | ⟨rfl, rfl⟩)
    · exact h
    · exact Ne.symm h
theorem way_parts {r0 rt : Nat} {W : List Nat} (h : (wayL r0 rt W).Nodup) : r0 ≠ rt ∧ W.Nodup ∧ ∀ w ∈ W, w ≠ r0 ∧ w ≠ rt := by
  unfold wayL at h
  rw [List.cons_append, List.nodup_cons] at h
  have h2 := List.nodup_append.mp h.2
  refine ⟨fun e => h.1 (by simp [e]), h2.1, fun w hw => ⟨fun e => h.1 (by rw [← e]; simp [hw]), fun e => ?_⟩⟩
  exact h2.2.2 w hw rt (by simp) e
theorem run_start {B : List Tie} (hB : Nrm 16 B) {r0 rt : Nat} {P : List Nat} (h0 : pairOf r0 rt ∈ B) (hP : P ≠ []) (hn : (wayL r0 rt P).Nodup) (hw : Way (N16 B) (wayL r0 rt P)) : RunOk B [wayL r0 rt P, (wayL r0 rt P).reverse] (ringT (wayL r0 rt P)) := by
  obtain ⟨hne, hPn, hPw⟩ := way_parts hn
  have elast : (wayL r0 rt P).getLastD 0 = rt := lastD_snoc (r0 :: P) rt
  have eT : ringT (wayL r0 rt P) = pairOf rt r0 :: (dl (wayL r0 rt P)).map pT := by unfold ringT; rw [elast]; rfl
  have hc : Cut r0 rt [] [] P := ⟨by simp [hne], hPn, fun w hw => by have := hPw w hw; simp [this.1, this.2]⟩
  have hno : ∀ d ∈ dl (wayL r0 rt P), pT d ≠ pairOf r0 rt := fun d hd e => by
    rcases pT_eq.mp (show pairOf d.1 d.2 = pairOf r0 rt from e) with ⟨e1, e2⟩ | ⟨e1, e2⟩
    · have hd : (d.1, d.2) ∈ dl (wayL r0 rt P) := hd
      rw [e1, e2] at hd
      have := (dl_src (l := P ++ [rt]) (by simpa [wayL] using hn) (by simpa [wayL] using hd)).1
      cases P with
      | nil => exact hP rfl
      | cons p P => exact (hPw p List.mem_cons_self).2 this.symm
    · have hd : (d.1, d.2) ∈ dl (wayL r0 rt P) := hd
      rw [e1, e2] at hd
      exact dl_no_src (l := r0 :: P) (by simpa [wayL] using hn) hd
  have key := (emb2 hne).lay (rest := []) (rest' := []) (F := [r0, rt]) (P := []) (Q := []) (W := P) (List.Perm.refl _) (List.Perm.refl _) (List.Perm.refl _) hc (fun w hw a e => by
      have := pT_eq.mp (List.mem_singleton.mp e)
      have h2 := hPw w hw
      rcases this with ⟨e1, _⟩ | ⟨e1, _⟩
      · exact h2.1 e1
      · exact h2.2 e1) (fun d hd z => hno d hd (List.mem_singleton.mp z))
  have p1 : (rds (wayL r0 rt P)).Perm (rds (cut2 r0 rt [] P)) := darts_rot [rt] (r0 :: P)
  have p2 : (rds (wayL r0 rt P).reverse).Perm (rds (cut1 r0 rt [] P)) := by
    have e : (wayL r0 rt P).reverse = (rt :: P.reverse) ++ [r0] := by unfold wayL; simp
    rw [e]
    exact darts_rot [r0] (rt :: P.reverse)
  have hrev : (wayL r0 rt P).reverse.Nodup := List.pairwise_reverse.mpr (hn.imp fun h e => h e.symm)
  have hlen : 2 ≤ (wayL r0 rt P).length := by unfold wayL; simp
  refine ⟨⟨_, Emb.congr key (laid' := ringT (wayL r0 rt P)) (fields' := [wayL r0 rt P, (wayL r0 rt P).reverse]) (fun t => ?_) ?_ fun f hf => ?_⟩, fun t ht => ?_, ?_, ⟨r0, rt, hne, ?_, ?_⟩⟩
  · rw [eT, pT_comm rt r0]; simp
  · simp only [List.flatMap_cons, List.flatMap_nil, List.append_nil, List.nil_append]
    exact List.perm_append_comm.trans (p2.append p1)
  · have hf : f = wayL r0 rt P ∨ f = (wayL r0 rt P).reverse := by simpa using hf
    rcases hf with rfl | rfl
    · exact ⟨⟨hn, hlen⟩, cut2 r0 rt [] P, by simp, fun d hd => p1.mem_iff.mp hd⟩
    · exact ⟨⟨hrev, by rw [List.length_reverse]; exact hlen⟩, cut1 r0 rt [] P, by simp, fun d hd => p2.mem_iff.mp hd⟩
  · rw [eT] at ht
    rcases List.mem_cons.mp ht with rfl | ht
    · rw [pT_comm]; exact h0
    · obtain ⟨d, hd, rfl⟩ := List.mem_map.mp ht
      exact (adjB hB).mp (hw d hd)
  · rw [eT, List.nodup_cons]
    refine ⟨fun z => ?_, ties_nd hn⟩
    obtain ⟨d, hd, e⟩ := List.mem_map.mp z
    exact hno d hd (e.trans (pT_comm _ _))
  · exact (pt_pair (a := rt) (b := r0) (by rw [eT]; exact List.mem_cons_self)).2
  · exact (pt_pair (a := rt) (b := r0) (by rw [eT]; exact List.mem_cons_self)).1
theorem inner_new {B laid : List Tie} {ends inner : List Nat} (h : Piece B laid ends inner) : ∀ w ∈ inner, ¬ Pt laid w := by
  rcases h with ⟨h, _⟩ | ⟨p, _, hp, h, _⟩
  · intro w hw; rw [h] at hw; cases hw
  · intro w hw
    rcases reach_bar ((h w).mp hw) with rfl | h1
    · exact hp
    · intro z; rw [pl_iff.mpr z] at h1; cases h1
theorem run_step {B : List Tie} (hB : Nrm 16 B) {fields : List (List Nat)} {laid : List Tie} {ends inner way : List Nat} {i : Nat} (h : RunOk B fields laid) (hp : Piece B laid ends inner) (hw : IsWay (N16 B) (ends.headD 0) ends.tail inner way) (hi : i ∈ fits fields ends) :
    RunOk B (fields.eraseIdx i ++ partedL (fields.getD i []) way) (laid ++ (dl way).map pT) := by
  obtain ⟨⟨T, hT⟩, hsub, hnd, a, b, hab, ha, hb⟩ := h
  obtain ⟨e, W, he, rfl, hn, hWi, hway, hWne⟩ := hw
  obtain ⟨hil, hie⟩ := mem_fits.mp hi
  obtain ⟨hne, hWn, hWe⟩ := way_parts hn
  have hf : fields.getD i [] ∈ fields := by
    rw [List.getD_eq_getElem?_getD, List.getElem?_eq_getElem hil]; exact List.getElem_mem _
  obtain ⟨e0, es, rfl⟩ : ∃ e0 es, ends = e0 :: es := by
    cases ends with
    | nil => cases he
    | cons e0 es => exact ⟨e0, es, rfl⟩
  have hn : (wayL e0 e W).Nodup := hn
  have hway : Way (N16 B) (wayL e0 e W) := hway
  have hne : e0 ≠ e := hne
  have hWe : ∀ w ∈ W, w ≠ e0 ∧ w ≠ e := hWe
  have he : e ∈ es := he
  show RunOk B (fields.eraseIdx i ++ partedL (fields.getD i []) (wayL e0 e W)) (laid ++ (dl (wayL e0 e W)).map pT)
  have h0f : e0 ∈ fields.getD i [] := hie e0 List.mem_cons_self
  have hef : e ∈ fields.getD i [] := hie e (List.mem_cons_of_mem _ he)
  obtain ⟨P, Q, hd, hpm, hpart⟩ := parted_eq (W := W) (hT.fnd _ hf).1 h0f hef hne
  have hnew := inner_new hp
  have hfield : ∀ x ∈ fields.getD i [], Pt laid x := fun x hx => emb_placed hT hf hx
  have hWnew : ∀ w ∈ W, ¬ Pt laid w := fun w hw => hnew w (hWi w hw)
  have hwl : ∀ d ∈ dl (wayL e0 e W), pT d ∉ laid := fun d hd z => by
    have hz := pt_pair (show pairOf d.1 d.2 ∈ laid from z)
    by_cases c : W = []
    · subst c
      have hd : d = (e0, e) := by simpa [wayL, dl] using hd
      subst hd
      rcases hp with ⟨_, t, ht, htl, _, _, e1⟩ | ⟨p, _, _, hin, _⟩
      · injection e1 with e1 e2
        subst e1
        have he2 : e = t.2 := by rw [e2] at he; simpa using he
        subst he2
        have : pT (t.1, t.2) = t := (tie_pair hB ht).symm
        rw [this] at z
        exact htl z
      · exact hWne (fun h0 => by have := (hin p).mpr .base; rw [h0] at this; cases this) rfl
    · -- one end of each step lies within
      have hm := dl_mem (show (d.1, d.2) ∈ dl (wayL e0 e W) from hd)
      have hin : d.1 ∈ W ∨ d.2 ∈ W := by
        have m1 := hm.1
        have m2 := hm.2
        unfold wayL at m1 m2
        simp at m1 m2
        rcases m1 with m1 | m1 | m1
        · rcases m2 with m2 | m2 | m2
          · exact absurd (m1.trans m2.symm) (dl_ne hn hd)
          · exact .inr m2
          · exfalso
            have hd : (d.1, d.2) ∈ dl (wayL e0 e W) := hd
            rw [m1, m2] at hd
            have := (dl_src (l := W ++ [e]) (by simpa [wayL] using hn) (by simpa [wayL] using hd)).1
            cases W with
            | nil => exact c rfl
            | cons w W => exact (hWe w List.mem_cons_self).2 this.symm
        · exact .inl m1
        · exfalso
          have hd : (d.1, d.2) ∈ dl (wayL e0 e W) := hd
          rw [m1] at hd
          exact dl_no_src (l := e0 :: W) (by simpa [wayL] using hn) hd
      rcases hin with h1 | h1
      · exact hWnew _ h1 hz.1
      · exact hWnew _ h1 hz.2
  have hc : Cut e0 e P Q W := ⟨hpm.nodup_iff.mpr (hT.fnd _ hf).1, hWn, fun w hw z => hWnew w hw (hfield w (hpm.mem_iff.mp z))⟩
  have hperm : fields.Perm (fields.getD i [] :: fields.eraseIdx i) := by
    have e1 : fields.getD i [] = fields[i] := by rw [List.getD_eq_getElem?_getD, List.getElem?_eq_getElem hil]; rfl
    rw [e1, List.eraseIdx_eq_take_drop_succ]
    have e2 : fields = fields.take i ++ fields[i] :: fields.drop (i + 1) := by rw [← List.drop_eq_getElem_cons hil, List.take_append_drop]
    have := List.perm_middle (a := fields[i]) (l₁ := fields.take i) (l₂ := fields.drop (i + 1))
    rw [← e2] at this
    exact this
  have key := hT.lay hperm (List.Perm.refl _) hd hc (fun w hw x z => hWnew w hw (pt_pair z).1) hwl
  rw [hpart]
  refine ⟨⟨_, key⟩, fun t ht => ?_, ?_, a, b, hab, ?_, ?_⟩
  · rcases List.mem_append.mp ht with ht | ht
    · exact hsub t ht
    · obtain ⟨d, hd, rfl⟩ := List.mem_map.mp ht
      exact (adjB hB).mp (hway d hd)
  · rw [List.nodup_append]
    refine ⟨hnd, ties_nd hn, fun x hx y hy z => ?_⟩
    subst z
    obtain ⟨d, hd, rfl⟩ := List.mem_map.mp hy
    exact hwl d hd hx
  · obtain ⟨t, ht, h1⟩ := ha; exact ⟨t, List.mem_append_left _ ht, h1⟩
  · obtain ⟨t, ht, h1⟩ := hb; exact ⟨t, List.mem_append_left _ ht, h1⟩
theorem run_ok {B : List Tie} (hB : Nrm 16 B) {fields : List (List Nat)} {laid : List Tie} (h : Run B fields laid) : RunOk B fields laid := by
  induction h with
  | start h0 hP hn hw => exact run_start hB h0 hP hn hw
  | step _ hp _ hw hi ih => exact run_step hB ih hp hw hi
/-! ### there is a way -/
theorem exit {near : List (List Nat)} {bar : Nat → Bool} {S : Nat → Bool} {p b : Nat} (h : Reach near bar p b) (hp : S p = false) (hb : S b = true) : ∃ x e, Reach near S p x ∧ (x = p ∨ bar x = false) ∧ e ∈ near.getD x [] ∧ S e = true ∧ bar e = false := by
  have key : ∀ {b}, Reach near bar p b → (S b = true → ∃ x e, Reach near S p x ∧ (x = p ∨ bar x = false) ∧ e ∈ near.getD x [] ∧ S e = true ∧ bar e = false) ∧ (S b = false → Reach near S p b ∨ ∃ x e, Reach near S p x ∧ (x = p ∨ bar x = false) ∧ e ∈ near.getD x [] ∧ S e = true ∧ bar e = false) := by
    intro b h
    induction h with
    | base => exact ⟨fun z => (by rw [hp] at z; cases z), fun _ => .inl .base⟩
    | @step x y h1 h2 h3 ih =>
      cases hx : S x with
      | true => have := ih.1 hx; exact ⟨fun _ => this, fun _ => .inr this⟩
      | false =>
        rcases ih.2 hx with r | r
        · refine ⟨fun hy => ⟨x, y, r, reach_bar h1, h2, hy, h3⟩, fun hy => .inl (r.step h2 hy)⟩
        · exact ⟨fun _ => r, fun _ => .inr r⟩
  exact (key h).1 hb
theorem not_pl {laid : List Tie} {x : Nat} : pl laid x = false ↔ ¬ Pt laid x := by
  rw [← pl_iff]; cases pl laid x <;> simp
theorem pt_lt {B : List Tie} (h : Nrm 16 B) {x : Nat} (hx : Pt B x) : x < 16 := by
  obtain ⟨t, ht, e⟩ := hx
  have := h.rng t ht
  omega
theorem pt_sub {B laid : List Tie} (h : ∀ t ∈ laid, t ∈ B) {x : Nat} (hx : Pt laid x) : Pt B x := by
  obtain ⟨t, ht, e⟩ := hx; exact ⟨t, h t ht, e⟩
theorem bar_false {p x : Nat} : (fun z => decide (z = p)) x = false ↔ x ≠ p := by simp
/-- what is left of a block hangs on two points at least -/
theorem two_ends {B : List Tie} (hB : Blk B) {laid : List Tie} (hsub : ∀ t ∈ laid, t ∈ B) {a b : Nat} (hab : a ≠ b) (ha : Pt laid a) (hb : Pt laid b) {p : Nat} (hp : Pt B p) (hpl : ¬ Pt laid p) :
    ∃ e0 e1 x0 x1, e0 ≠ e1 ∧ Pt laid e0 ∧ Pt laid e1 ∧ Reach (N16 B) (pl laid) p x0 ∧ Reach (N16 B) (pl laid) p x1 ∧ pairOf x0 e0 ∈ B ∧ pairOf x1 e1 ∈ B := by
  have hp0 := not_pl.mpr hpl
  obtain ⟨x0, e0, r0, _, n0, s0, _⟩ := exit (hB.hold 16 p a hp (pt_sub hsub ha) (by have := pt_lt hB.nrm hp; omega) (by have := pt_lt hB.nrm (pt_sub hsub ha); omega)) hp0 (pl_iff.mpr ha)
  have h0 := pl_iff.mp s0
  obtain ⟨c, hc, hc0⟩ : ∃ c, Pt laid c ∧ c ≠ e0 := by
    by_cases z : a = e0
    · exact ⟨b, hb, fun e => hab (z.trans e.symm)⟩
    · exact ⟨a, ha, z⟩
  obtain ⟨x1, e1, r1, _, n1, s1, b1⟩ := exit (hB.hold e0 p c hp (pt_sub hsub hc) (fun e => hpl (e ▸ h0)) hc0) hp0 (pl_iff.mpr hc)
  exact ⟨e0, e1, x0, x1, fun e => bar_false.mp b1 e.symm, h0, pl_iff.mp s1, r0, r1, (adjB hB.nrm).mp n0, (adjB hB.nrm).mp n1⟩
theorem piece_ends {B : List Tie} (hB : Blk B) {laid : List Tie} (hsub : ∀ t ∈ laid, t ∈ B) (htwo : ∃ a b, a ≠ b ∧ Pt laid a ∧ Pt laid b) {ends inner : List Nat} (h : Piece B laid ends inner) : 2 ≤ ends.length ∧ ends.Nodup ∧ ∀ e ∈ ends, Pt laid e := by
  rcases h with ⟨_, t, ht, _, h1, h2, rfl⟩ | ⟨p, hp, hpl, hin, _, hen, he⟩
  · have := (hB.nrm.rng t ht).1
    refine ⟨by simp, by simp; omega, fun e he => ?_⟩
    have he : e = t.1 ∨ e = t.2 := by simpa using he
    rcases he with rfl | rfl
    · exact h1
    · exact h2
  · obtain ⟨a, b, hab, ha, hb⟩ := htwo
    obtain ⟨e0, e1, x0, x1, hne, p0, p1, r0, r1, t0, t1⟩ := two_ends hB hsub hab ha hb hp hpl
    refine ⟨?_, hen, fun e he' => ((he e).mp he').1⟩
    have m0 := (he e0).mpr ⟨p0, x0, (hin x0).mpr r0, t0⟩
    have m1 := (he e1).mpr ⟨p1, x1, (hin x1).mpr r1, t1⟩
    have : [e0, e1].Nodup := by simp [hne]
    have := List.Nodup.length_le_of_subset this (l₂ := ends) (fun x hx => by
      have hx : x = e0 ∨ x = e1 := by simpa using hx
      rcases hx with rfl | rfl
      · exact m0
      · exact m1)
    simpa using this
/-- from the first end, within the piece, to another one -/
theorem piece_way {B : List Tie} (hB : Blk B) {laid : List Tie} (hsub : ∀ t ∈ laid, t ∈ B) (htwo : ∃ a b, a ≠ b ∧ Pt laid a ∧ Pt laid b) {ends inner : List Nat} (h : Piece B laid ends inner) : ∃ way, IsWay (N16 B) (ends.headD 0) ends.tail inner way := by
  have hl := piece_ends hB hsub htwo h
  obtain ⟨e0, e1, es, rfl⟩ : ∃ e0 e1 es, ends = e0 :: e1 :: es := by
    match ends, hl.1 with
    | e0 :: e1 :: es, _ => exact ⟨e0, e1, es, rfl⟩
  have hne : e0 ≠ e1 := fun e => (List.nodup_cons.mp hl.2.1).1 (by rw [e]; simp)
  rcases h with ⟨hi, t, ht, _, _, _, e⟩ | ⟨p, hp, hpl, hin, _, hen, he⟩
  · injection e with e1' e2'
    injection e2' with e2' e3'
    subst e1'; subst e2'; subst e3'
    refine ⟨wayL t.1 t.2 [], t.2, [], by simp, rfl, by unfold wayL; simp; exact hne, fun w hw => (by cases hw), ?_, fun z => absurd hi z⟩
    refine Way.cons.mpr ⟨(adjB hB.nrm).mpr ?_, Way.one⟩
    rw [← tie_pair hB.nrm ht]; exact ht
  · obtain ⟨p0, x0, hx0, t0⟩ := (he e0).mp (by simp)
    obtain ⟨p1, x1, hx1, t1⟩ := (he e1).mp (by simp)
    have hnew : ∀ x ∈ inner, ¬ Pt laid x := inner_new (.inr ⟨p, hp, hpl, hin, by assumption, hen, he⟩)
    have r0 := (hin x0).mp hx0
    have r1 := (hin x1).mp hx1
    have r : Reach (N16 B) (pl laid) x0 x1 := reach_trans (reach_symm (symB hB.nrm) (not_pl.mpr hpl) r0).2 r1
    obtain ⟨l, n, elast, w, hb⟩ := reach_way r
    have hWin : ∀ y ∈ x0 :: l, y ∈ inner := fun y hy => (hin y).mpr (reach_trans r0 (w.reach hb hy))
    obtain ⟨l', z, ez⟩ := last_split (t := x0 :: l) (by simp)
    have ez1 : z = x1 := by rw [← elast, ez, lastD_snoc]
    subst ez1
    refine ⟨wayL e0 e1 (x0 :: l), e1, x0 :: l, by simp, rfl, ?_, hWin, ?_, fun _ => by simp⟩
    · unfold wayL
      rw [List.cons_append, List.nodup_cons]
      refine ⟨fun m => ?_, ?_⟩
      · rcases List.mem_append.mp m with m | m
        · exact hnew _ (hWin _ m) p0
        · exact hne (List.mem_singleton.mp m)
      · rw [List.nodup_append]
        refine ⟨n, by simp, fun a ha b hb e => ?_⟩
        rw [List.mem_singleton.mp hb] at e
        subst e
        exact hnew _ (hWin _ ha) p1
    · show Way (N16 B) (e0 :: x0 :: l ++ [e1])
      have e5 : e0 :: x0 :: l ++ [e1] = (e0 :: l') ++ z :: [e1] := by rw [List.cons_append, ez]; simp
      rw [e5]
      refine Way.app.mpr ⟨?_, Way.cons.mpr ⟨(adjB hB.nrm).mpr t1, Way.one⟩⟩
      have e6 : e0 :: l' ++ [z] = e0 :: x0 :: l := by rw [List.cons_append, ← ez]
      rw [e6]
      exact Way.cons.mpr ⟨(adjB hB.nrm).mpr (by rw [pT_comm]; exact t0), w⟩
/-- while a tie is left there's a piece that holds it -/
theorem piece_any {B : List Tie} (hB : Blk B) {laid : List Tie} {t : Tie} (ht : t ∈ B) (hl : t ∉ laid) : (Pt laid t.1 ∧ Pt laid t.2) ∨ ∃ p, Pt B p ∧ ¬ Pt laid p := by
  by_cases c : Pt laid t.1
  · by_cases d : Pt laid t.2
    · exact .inl ⟨c, d⟩
    · exact .inr ⟨t.2, ⟨t, ht, .inr rfl⟩, d⟩
  · exact .inr ⟨t.1, ⟨t, ht, .inl rfl⟩, c⟩
theorem pts_conn {B : List Tie} (hB : Blk B) {x y p : Nat} (hx : Pt B x) (hy : Pt B y) (hxp : x ≠ p) (hyp : y ≠ p) : Reach (N16 B) (fun z => decide (z = p)) x y := hB.hold p x y hx hy hxp hyp
/-- the first ring's way -/
theorem ring_way {B : List Tie} (hB : Blk B) {t : Tie} (ht : t ∈ B) (h2 : 2 ≤ B.length) {inner : List Nat} (hin : ∀ x, x ∈ inner ↔ Pt B x ∧ x ≠ t.1 ∧ x ≠ t.2) : ∃ way, IsWay (N16 B) t.1 [t.2] inner way ∧ inner ≠ [] := by
  have hlt := (hB.nrm.rng t ht).1
  -- a third point
  obtain ⟨c, hc, hc1, hc2⟩ : ∃ c, Pt B c ∧ c ≠ t.1 ∧ c ≠ t.2 := by
    obtain ⟨u, hu, hne⟩ : ∃ u ∈ B, u ≠ t := by
      have hnd : B.Nodup := hB.nrm.good.pw.imp fun h => h.1
      match B, h2, hnd, ht with
      | a :: b :: l, _, hn, _ =>
        by_cases e : a = t
        · exact ⟨b, by simp, fun z => (List.nodup_cons.mp hn).1 (by rw [e, ← z]; simp)⟩
        · exact ⟨a, by simp, e⟩
    have hu2 := (hB.nrm.rng u hu).1
    by_cases c1 : u.1 ≠ t.1 ∧ u.1 ≠ t.2
    · exact ⟨u.1, ⟨u, hu, .inl rfl⟩, c1.1, c1.2⟩
    · by_cases c2 : u.2 ≠ t.1 ∧ u.2 ≠ t.2
      · exact ⟨u.2, ⟨u, hu, .inr rfl⟩, c2.1, c2.2⟩
      · exfalso
        apply hne
        refine Prod.ext ?_ ?_ <;> omega
  have p1 : Pt B t.1 := ⟨t, ht, .inl rfl⟩
  have p2 : Pt B t.2 := ⟨t, ht, .inr rfl⟩
  have hS : ∀ x, (fun z => decide (z = t.1) || decide (z = t.2)) x = false ↔ x ≠ t.1 ∧ x ≠ t.2 := fun x => by simp
  have hS2 : ∀ x, (fun z => decide (z = t.1) || decide (z = t.2)) x = true ↔ x = t.1 ∨ x = t.2 := fun x => by simp
  -- from c to t.2 without t.1, from c to t.1 without t.2
  obtain ⟨x1, e1, r1, _, n1, s1, b1⟩ := exit (S := fun z => decide (z = t.1) || decide (z = t.2)) (hB.hold t.1 c t.2 hc p2 hc1 (by omega)) ((hS c).mpr ⟨hc1, hc2⟩) ((hS2 _).mpr (.inr rfl))
  obtain ⟨x0, e0, r0, _, n0, s0, b0⟩ := exit (S := fun z => decide (z = t.1) || decide (z = t.2)) (hB.hold t.2 c t.1 hc p1 hc2 (by omega)) ((hS c).mpr ⟨hc1, hc2⟩) ((hS2 _).mpr (.inl rfl))
  have he1 : e1 = t.2 := ((hS2 _).mp s1).resolve_left (bar_false.mp b1)
  have he0 : e0 = t.1 := ((hS2 _).mp s0).resolve_right (bar_false.mp b0)
  subst he1; subst he0
  have r := reach_trans (reach_symm (symB hB.nrm) ((hS c).mpr ⟨hc1, hc2⟩) r0).2 r1
  obtain ⟨l, n, elast, w, hb⟩ := reach_way r
  have hx0 : (fun z => decide (z = t.1) || decide (z = t.2)) x0 = false := by
    rcases reach_bar r0 with e | e
    · rw [e]; exact (hS c).mpr ⟨hc1, hc2⟩
    · exact e
  have hWb : ∀ y ∈ x0 :: l, y ≠ t.1 ∧ y ≠ t.2 := fun y hy => by
    rcases List.mem_cons.mp hy with rfl | hy
    · exact (hS _).mp hx0
    · exact (hS _).mp (hb y hy)
  have hPt : ∀ y ∈ x0 :: l, Pt B y := fun y hy => by
    have ry := w.reach hb hy
    cases ry with
    | base => exact (pt_pair ((adjB hB.nrm).mp n0)).1
    | step _ h3 _ => exact (pt_pair ((adjB hB.nrm).mp h3)).2
  obtain ⟨l', z, ez⟩ := last_split (t := x0 :: l) (by simp)
  have ez1 : z = x1 := by rw [← elast, ez, lastD_snoc]
  subst ez1
  refine ⟨wayL t.1 t.2 (x0 :: l), ⟨t.2, x0 :: l, by simp, rfl, ?_, fun y hy => (hin y).mpr ⟨hPt y hy, hWb y hy⟩, ?_, fun _ => by simp⟩, fun e => ?_⟩
  · unfold wayL
    rw [List.cons_append, List.nodup_cons]
    refine ⟨fun m => ?_, ?_⟩
    · rcases List.mem_append.mp m with m | m
      · exact (hWb _ m).1 rfl
      · have := List.mem_singleton.mp m; omega
    · rw [List.nodup_append]
      refine ⟨n, by simp, fun a ha b hb e => ?_⟩
      rw [List.mem_singleton.mp hb] at e
      subst e
      exact (hWb _ ha).2 rfl
  · show Way (N16 B) (t.1 :: x0 :: l ++ [t.2])
    have e5 : t.1 :: x0 :: l ++ [t.2] = (t.1 :: l') ++ z :: [t.2] := by rw [List.cons_append, ez]; simp
    rw [e5]
    refine Way.app.mpr ⟨?_, Way.cons.mpr ⟨n1, Way.one⟩⟩
    have e6 : t.1 :: l' ++ [z] = t.1 :: x0 :: l := by rw [List.cons_append, ← ez]
    rw [e6]
    exact Way.cons.mpr ⟨symB hB.nrm _ _ n0, w⟩
  · have := (hin c).mpr ⟨hc, hc1, hc2⟩
    rw [e] at this; cases this
end DD

set_option Elab.async false
set_option linter.all false
set_option maxRecDepth 100000
set_option maxHeartbeats 1000000
set_option autoImplicit false
/-! rules for drawing.py: dicts of lists, a caller's dict walked over -/
namespace FU
open PySem L2 FD FX FQ FI FN FB FW FK
open FZ hiding ev_lstM
open Evl (Ex)
section
variable {B : Base} {Δ : List Sd} {C : Cs} {σ : L2.St} {H F : Hp} {ta tb te td tk : TE} {tu tz : TS} {D : Ends} {K : PySem.W.Frag} {α : Type} {f : α → PyData}
theorem evN_rev {ds : List PyData} (h : Ev B Δ C te (.d (.list ds))) : EvN B Δ C (FV.tLstRev K te) (.lst (ds.reverse.map Sd.d)) := fun σ H F hs Q q => h σ H F hs _ fun v F1 H1 h1 e1 e1' w => by
  obtain ⟨a, xs, rfl, e, r⟩ := Rep.lst_inv w
  exact ⟨a, xs, rfl, SqL.of (h1.fh _ _ e), (q.later e1 e1').made h1 ⟨_, rfl, r.reverse.sl⟩⟩
theorem revF {a : List α} (h : Ev B Δ C te (.d (.list (a.map f)))) : Ev B Δ C (FV.tLstRev K te) (.d (.list (a.reverse.map f))) := ev_eq (ev_of (evN_rev h)) (by rw [List.map_reverse])
theorem catF {a b : List α} (h1 : Ev B Δ C ta (.d (.list (a.map f)))) (h2 : Ev B Δ C tb (.d (.list (b.map f)))) (hz : a.length + b.length ≤ 100000 := by omega) : Ev B Δ C (tOp rCat ta tb) (.d (.list ((a ++ b).map f))) := ev_eq (ev_of (evN_op h1 h2 (rv_cat (by rw [List.length_map, List.length_map]; exact hz)))) (by rw [List.map_append])
theorem cutL {a : List α} {k : Nat} (h : Ev B Δ C te (.d (.list (a.map f)))) (hk : Ev B Δ C tk (sN k)) : Ev B Δ C (tSl (rSlL K) te tNoPart (tPart tk)) (.d (.list ((a.take k).map f))) := ev_eq (ev_sl h eo_none (eo_some hk)) (by rw [cutD_map, FK.cut_left])
theorem cutR {a : List α} {k : Nat} (h : Ev B Δ C te (.d (.list (a.map f)))) (hk : Ev B Δ C tk (sN k)) : Ev B Δ C (tSl (rSlL K) te (tPart tk) tNoPart) (.d (.list ((a.drop k).map f))) := ev_eq (ev_sl h (eo_some hk) eo_none) (by rw [cutD_map, FK.cut_right])
theorem oneF {x : α} (h : Ev B Δ C te (.d (f x))) : Ev B Δ C (tLst (tCons te tNil)) (.d (.list (([x] : List α).map f))) := ev_lst1 h
theorem atF {a : List α} {k : Nat} {x : α} (h : Ev B Δ C te (.d (.list (a.map f)))) (hk : Ev B Δ C tk (sN k)) (hx : a[k]? = some x) : Ev B Δ C (tOp (rIx K) te tk) (.d (f x)) := ev_op h hk (rv_xL (atI_mapN f hx))
theorem lastF {a : List α} {x : α} (h : Ev B Δ C te (.d (.list (a.map f)))) (hx : a[a.length - 1]? = some x) : Ev B Δ C (tOp (rIx K) te (tUn (rU fun i => .int (-i)) (tC (.int 1)))) (.d (f x)) := ev_op h (ev_un ev_int ru_i) (rv_xL (at_last (by rw [List.length_map, List.getElem?_map, hx]; rfl)))
theorem mod_nat {z : Int} {n : Nat} (hn : 0 < n) : ∃ k : Nat, z % (n : Int) = (k : Int) ∧ k < n := by
  have g1 := Int.emod_nonneg z (show (n : Int) ≠ 0 by omega)
  have g2 := Int.emod_lt_of_pos z (show (0 : Int) < n by omega)
  exact ⟨(z % (n : Int)).toNat, by omega, by omega⟩
theorem wp_frzD {i : Nat} {l : Addr} {ds : List PyData} (hi : Δ[i]? = some (.v (.ref l))) (hB : B.H l = none) (h : WP B (Δ.set i (.d (.list ds))) C tu D) : WP B Δ ((l, .lst (ds.map Sd.d)) :: C) tu D := fun σ H ⟨F, hs⟩ => by
  obtain ⟨F', e, h1, r⟩ := hs.frzD (k := 0) rfl hB
  obtain ⟨o, ho, w⟩ := h1.sl.get hi
  obtain ⟨v, rfl, w⟩ := w.some rfl
  cases w
  exact h σ H ⟨F', h1.slots (FR.Sl.reset h1.sl ho (show SlO F' (some (V.ref l)) (.d (.list ds)) from r))⟩
theorem ext_trans {F2 H2 F3 H3 : Hp} (x1 : Ext ⟨F, H, []⟩ F2 H2) (x2 : Ext ⟨F2, H2, []⟩ F3 H3) : Ext ⟨F, H, []⟩ F3 H3 := ⟨x1.ff.trans x2.ff, x2.fh, x1.hh.trans x2.hh, fun a n => by
  rcases x2.gr a n with z | z | ⟨ys, z⟩
  · exact x1.gr a z
  · refine .inr (.inl ?_)
    cases q : H a with
    | none => exact q
    | some o => have := x1.hh a o q; have z : H2 a = none := z; rw [this] at z; cases z
  · have z : H2 a = some (.tup ys) := z
    cases q : H a with
    | none => exact .inr (.inl q)
    | some o => have := x1.hh a o q; rw [z] at this; cases this; exact .inr (.inr ⟨ys, q⟩)⟩
def intsV (r : List Nat) : List V := r.map fun n : Nat => V.int (n : Int)
theorem repN_ints {F : Hp} {r : List Nat} {ys : List V} (h : RepA F ys (r.map dN)) : ys = intsV r := by
  have e4 : r.map dN = (r.map fun k : Nat => (k : Int)).map PyData.int := by rw [List.map_map]; rfl
  rw [e4] at h
  rw [h.ints, List.map_map]; rfl
theorem repN_of {F : Hp} {r : List Nat} : RepA F (intsV r) (r.map dN) := by
  have e4 : r.map dN = (r.map fun k : Nat => (k : Int)).map PyData.int := by rw [List.map_map]; rfl
  have e5 : intsV r = (r.map fun k : Nat => (k : Int)).map V.int := by rw [List.map_map]; rfl
  rw [e4, e5]; exact RepA.of_ints
theorem slN_of {F : Hp} {r : List Nat} : SlA F (intsV r) (r.map sN) := by
  have h := (repN_of (F := F) (r := r)).sl
  rw [List.map_map] at h; exact h
/-- the inner cells -/
def inC (ps : List Addr) (rows : List (List Nat)) : Cs := (ps.zip rows).map fun x => (x.1, .lst (x.2.map sN))
def nestC (lo : Addr) (ps : List Addr) (rows : List (List Nat)) : Cs := (lo, .lst (ps.map fun p => .v (.ref p))) :: inC ps rows
theorem inC_fst : ∀ {ps : List Addr} {rows : List (List Nat)}, ps.length = rows.length → (inC ps rows).map (·.1) = ps
  | [], [], _ => rfl
  | p :: ps, r :: rows, h => by
    show p :: (inC ps rows).map (·.1) = _
    rw [inC_fst (by simpa using h)]
theorem inC_get {ps : List Addr} {rows : List (List Nat)} {j : Nat} (hj : j < rows.length) (h : ps.length = rows.length) : (inC ps rows)[j]? = some (ps.getD j 0, .lst ((rows.getD j []).map sN)) := by
  have hp : j < ps.length := by omega
  unfold inC
  rw [List.getElem?_map, List.getElem?_eq_getElem (by simp; omega), List.getElem_zip, List.getD_eq_getElem?_getD, List.getD_eq_getElem?_getD, List.getElem?_eq_getElem hj, List.getElem?_eq_getElem hp]; rfl
theorem inC_set {ps : List Addr} {rows : List (List Nat)} {j : Nat} {r : List Nat} (hj : j < rows.length) (h : ps.length = rows.length) : (inC ps rows).set j (ps.getD j 0, .lst (r.map sN)) = inC ps (rows.set j r) := by
  have hp : j < ps.length := by omega
  refine List.ext_getElem? fun i => ?_
  by_cases c : i = j
  · subst c
    rw [List.getElem?_set_self (by unfold inC; simp; omega), inC_get (by simp; omega) (by simp; omega)]
    congr 4
    rw [List.getD_eq_getElem?_getD, List.getElem?_set_self hj]; rfl
  · rw [List.getElem?_set_ne (Ne.symm c)]
    unfold inC
    rw [List.getElem?_map, List.getElem?_map]
    congr 1
    by_cases d : i < rows.length
    · rw [List.getElem?_eq_getElem (by simp; omega), List.getElem?_eq_getElem (by simp; omega), List.getElem_zip, List.getElem_zip, List.getElem_set_ne (Ne.symm c)]
    · rw [List.getElem?_eq_none (by simp; omega), List.getElem?_eq_none (by simp; omega)]
theorem sl_nats {F : Hp} {r : List Nat} {xs : List V} (h : SlA F xs (r.map sN)) : xs = intsV r := by
  have e : r.map sN = (r.map dN).map Sd.d := by rw [List.map_map]; rfl
  rw [e] at h
  exact repN_ints h.rep
theorem frzs : ∀ {cs : List (Addr × List Nat)} {F : Hp}, St B Δ (cs.map fun x => (x.1, .lst (x.2.map sN))) σ H F → (∀ x ∈ cs, B.H x.1 = none) → ∃ F', Ex F F' ∧ St B Δ [] σ H F' ∧ ∀ x ∈ cs, F' x.1 = some (.lst (intsV x.2))
  | [], F, h, _ => ⟨F, Ex.refl F, h, fun _ h => (by cases h)⟩
  | x :: cs, F, h, hB => by
    obtain ⟨o, h1, ⟨xs, rfl, r⟩, h3, h4⟩ := h.frz (k := 0) rfl (hB x List.mem_cons_self)
    obtain ⟨F', e1, e2, e3⟩ := frzs (cs := cs) h4 fun y hy => hB y (List.mem_cons_of_mem _ hy)
    refine ⟨F', h3.trans e1, e2, fun y hy => ?_⟩
    rcases List.mem_cons.mp hy with rfl | hy
    · rw [← sl_nats r]; exact e1 _ _ upd_same
    · exact e3 y hy
end
theorem wp_up {B : Base} {Δ : List Sd} {C : Cs} {tu : TS} {D : Ends} {i : Nat} {v : V} {s : Sd} (hi : Δ[i]? = some (.v v)) (h : SlV B.F v s) (k : WP B (Δ.set i s) C tu D) : WP B Δ C tu D := fun σ H ⟨F, hs⟩ => by
  obtain ⟨o, ho, w⟩ := hs.sl.get hi
  obtain ⟨v', rfl, w⟩ := w.some rfl
  cases w
  exact k σ H ⟨F, hs.slots (FR.Sl.reset hs.sl ho (SlO.mono hs.ff (o := some v) (s := s) h))⟩
theorem pin_o {Δ : List Sd} : ∀ {o : Option V}, Pinned Δ → Pinned (pinO o :: Δ)
  | some _, h => .v h
  | none, h => .no h
/-! ### d.setdefault(a, []).append(b): a dict of lists, every one a cell -/
def kvR (ks : List Nat) (ps : List Addr) : List (Key × Sd) := (ks.zip ps).map fun x => (.inl (x.1 : Int), .v (.ref x.2))
def nearC (d : Addr) (ks : List Nat) (ps : List Addr) (rows : List (List Nat)) : Cs := (d, .dk (kvR ks ps)) :: inC ps rows
theorem look_kvR {a : Nat} : ∀ {ks : List Nat} {ps : List Addr}, ks.length = ps.length → a ∈ ks → lookA (kvR ks ps) (.inl (a : Int)) = some (.v (.ref (ps.getD (ks.idxOf a) 0)))
  | k :: ks, p :: ps, hl, h => by
    show lookA ((.inl (k : Int), .v (.ref p)) :: kvR ks ps) (.inl (a : Int)) = _
    rw [lookA_cons]
    by_cases c : k = a
    · subst c; rw [if_pos rfl, List.idxOf_cons_self]; rfl
    · rw [if_neg (fun z => c (by injection z; omega))]
      have h : a ∈ ks := (List.mem_cons.mp h).resolve_left (Ne.symm c)
      have e : (k :: ks).idxOf a = ks.idxOf a + 1 := by rw [List.idxOf_cons, beq_false_of_ne c]; rfl
      rw [look_kvR (by simpa using hl) h, e]; rfl
theorem look_kvR_none {a : Nat} : ∀ {ks : List Nat} {ps : List Addr}, a ∉ ks → lookA (kvR ks ps) (.inl (a : Int)) = none
  | [], _, _ => rfl
  | _ :: _, [], _ => rfl
  | k :: ks, p :: ps, h => by
    show lookA ((.inl (k : Int), .v (.ref p)) :: kvR ks ps) (.inl (a : Int)) = _
    rw [lookA_cons, if_neg (fun z => h (by injection z with z; have : k = a := by omega
                                           rw [this]; exact List.mem_cons_self))]
    exact look_kvR_none fun z => h (List.mem_cons_of_mem _ z)
section
variable {B : Base} {Δ : List Sd} {C C' : Cs} {σ : L2.St} {H F : Hp} {ta tb te td tk : TE} {tu tz : TS} {D : Ends} {K : PySem.W.Frag}
theorem s_setApp {d : Addr} {ks : List Nat} {ps : List Addr} {rows : List (List Nat)} {a b : Nat} (h1 : ks.length = ps.length) (h2 : ps.length = rows.length) (hz : rows.length < 1000) (hr : ∀ r ∈ rows, r.length < 1000)
    (hd : ∀ {C}, Ev B Δ C td (.v (.ref d))) (ha : ∀ {C}, Ev B Δ C ta (sN a)) (hb : ∀ {C}, Ev B Δ C tb (sN b))
    (k1 : a ∈ ks → Nx B Δ (nearC d ks ps (rows.set (ks.idxOf a) (rows.getD (ks.idxOf a) [] ++ [b]))) D.nx)
    (k2 : a ∉ ks → ∀ p, B.H p = none → Nx B Δ (nearC d (ks ++ [a]) (ps ++ [p]) (rows ++ [[b]])) D.nx) :
    WP B Δ (nearC d ks ps rows) (tDrop (tBM K "list" rAppend (tDSetd td ta (tLst tNil)) (tCons tb tNil))) D := fun σ H ⟨F, hs⟩ =>
  hd σ H F hs _ fun v F1 H1 st1 e1 e1' w1 => by
    cases w1
    obtain ⟨vs1, ho1, _⟩ := cell_dk st1 (k := 0) (l := d) (kvs := kvR ks ps) rfl
    refine ⟨d, rfl, .inl ⟨vs1, .inl ho1⟩, ha σ H1 F1 st1 _ fun y F2 H2 st2 e2 e2' w2 => evN_lst0 σ H2 F2 st2 _ fun p F3 H3 st3 e3 e3' hp => ?_⟩
    have hpB := st2.free hp
    obtain ⟨vs, ho, r⟩ := cell_dk st3 (k := 1) (l := d) (kvs := kvR ks ps) rfl
    have hkl : (kvR ks ps).length < 1000 := by unfold kvR; rw [List.length_map, List.length_zip]; omega
    refine ⟨vs, .inl (a : Int), ho, Rep.key w2, sz_lt (by rw [r.length]; omega), fun v hv => ?_, fun hn => ?_⟩
    · by_cases c : a ∈ ks
      · rcases r.look (.inl (a : Int)) with ⟨z, _⟩ | ⟨v', s, z1, z2, z3⟩
        · rw [hv] at z; cases z
        · rw [hv] at z1; cases z1
          rw [look_kvR h1 c] at z2; cases z2
          have z3 : v = .ref (ps.getD (ks.idxOf a) 0) := z3
          subst z3
          have hj : ks.idxOf a < rows.length := by have := List.idxOf_lt_length_of_mem c; omega
          have st4 := st3.dropC hpB
          have hc : (nearC d ks ps rows)[ks.idxOf a + 1]? = some (ps.getD (ks.idxOf a) 0, .lst ((rows.getD (ks.idxOf a) []).map sN)) := inC_get hj h2
          obtain ⟨_, o, hx, xs, rfl, _⟩ := st4.cell hc
          refine ⟨.inl ⟨rfl, xs, SqL.of hx⟩, hb σ H3 F3 st4 _ fun y F4 H4 st5 e4 e4' w4 => ?_⟩
          obtain ⟨_, o, hx, xs, rfl, r5⟩ := st5.cell hc
          have hrl := hr (rows.getD (ks.idxOf a) []) (by rw [List.getD_eq_getElem?_getD, List.getElem?_eq_getElem hj]; exact List.getElem_mem _)
          have st6 := st5.put hc (o := .lst (xs ++ [y])) (c' := .lst ((rows.getD (ks.idxOf a) [] ++ [b]).map sN)) ⟨_, rfl, by rw [List.map_append]; exact r5.append (.cons w4 .nil)⟩
          have e6 : (nearC d ks ps rows).set (ks.idxOf a + 1) (ps.getD (ks.idxOf a) 0, .lst ((rows.getD (ks.idxOf a) [] ++ [b]).map sN)) = nearC d ks ps (rows.set (ks.idxOf a) (rows.getD (ks.idxOf a) [] ++ [b])) := by
            show (d, _) :: (inC ps rows).set (ks.idxOf a) _ = _
            rw [inC_set hj h2]; rfl
          rw [e6] at st6
          exact ⟨_, xs, y, rfl, rfl, hx, sz_lt (by rw [r5.length, List.length_map]; omega), k1 c _ _ ⟨F4, st6⟩⟩
      · rcases r.look (.inl (a : Int)) with ⟨z, _⟩ | ⟨v', s, z1, z2, z3⟩
        · rw [hv] at z; cases z
        · rw [look_kvR_none c] at z2; cases z2
    · have c : a ∉ ks := fun c => by
        rcases r.look (.inl (a : Int)) with ⟨_, z⟩ | ⟨v', s, z1, z2, z3⟩
        · rw [look_kvR h1 c] at z; cases z
        · rw [hn] at z1; cases z1
      have st4 := st3.put (k := 1) (l := d) rfl (o := .dK (putK vs (.inl (a : Int)) (.ref p))) (c' := .dk (putA (kvR ks ps) (.inl (a : Int)) (.v (.ref p)))) ⟨_, rfl, r.put _ rfl⟩
      rw [putA_new _ (look_kvR_none c)] at st4
      have e5 : kvR ks ps ++ [(.inl (a : Int), .v (.ref p))] = kvR (ks ++ [a]) (ps ++ [p]) := by
        unfold kvR
        rw [List.zip_append h1, List.map_append]; rfl
      rw [e5] at st4
      have st4 : FD.St B Δ ((p, .lst []) :: (d, .dk (kvR (ks ++ [a]) (ps ++ [p]))) :: inC ps rows) σ (upd H3 d (.dK (putK vs (.inl (a : Int)) (.ref p)))) F3 := st4
      obtain ⟨_, o, hx, xs, rfl, _⟩ := st4.cell (k := 0) rfl
      refine ⟨.inl ⟨rfl, xs, SqL.of hx⟩, hb σ _ F3 st4 _ fun y F4 H4 st5 e4 e4' w4 => ?_⟩
      obtain ⟨_, o, hx, xs, rfl, r5⟩ := st5.cell (k := 0) rfl
      have st6 := st5.put (k := 0) rfl (o := .lst (xs ++ [y])) (c' := .lst [sN b]) ⟨_, rfl, by cases r5; exact .cons w4 .nil⟩
      refine ⟨p, xs, y, rfl, rfl, hx, sz_lt (by rw [r5.length]; show 0 < 100000; decide), k2 c p hpB _ _ ⟨F4, FD.St.perm st6 ?_⟩⟩
      have e7 : inC (ps ++ [p]) (rows ++ [[b]]) = inC ps rows ++ [(p, .lst [sN b])] := by
        unfold inC
        rw [List.zip_append h2, List.map_append]; rfl
      show ((p, Cd.lst [sN b]) :: (d, .dk (kvR (ks ++ [a]) (ps ++ [p]))) :: inC ps rows).Perm ((d, .dk (kvR (ks ++ [a]) (ps ++ [p]))) :: inC (ps ++ [p]) (rows ++ [[b]]))
      rw [e7]
      refine (List.Perm.swap _ _ _).trans (List.Perm.cons _ ?_)
      exact List.perm_append_comm (l₁ := [(p, Cd.lst [sN b])]) (l₂ := inC ps rows)
end
section
variable {B : Base} {Δ : List Sd} {C C0 : Cs} {σ : L2.St} {H F : Hp}
theorem frzs2 : ∀ {cs : List (Addr × List Nat)} {F : Hp}, FD.St B Δ (cs.map (fun x => (x.1, Cd.lst (x.2.map sN))) ++ C0) σ H F → (∀ x ∈ cs, B.H x.1 = none) → ∃ F', Ex F F' ∧ FD.St B Δ C0 σ H F' ∧ ∀ x ∈ cs, F' x.1 = some (.lst (intsV x.2))
  | [], F, h, _ => ⟨F, Ex.refl F, h, fun _ h => (by cases h)⟩
  | x :: cs, F, h, hB => by
    obtain ⟨o, h1, ⟨xs, rfl, r⟩, h3, h4⟩ := h.frz (k := 0) rfl (hB x List.mem_cons_self)
    obtain ⟨F', e1, e2, e3⟩ := frzs2 (cs := cs) h4 fun y hy => hB y (List.mem_cons_of_mem _ hy)
    refine ⟨F', h3.trans e1, e2, fun y hy => ?_⟩
    rcases List.mem_cons.mp hy with rfl | hy
    · rw [← sl_nats r]; exact e1 _ _ upd_same
    · exact e3 y hy
theorem kv_rows {F' : Hp} : ∀ {ks : List Nat} {ps : List Addr} {rows : List (List Nat)} {vs : List (Key × V)}, KvA F vs (kvR ks ps) → ks.length = ps.length → ps.length = rows.length → (∀ x ∈ ps.zip rows, F' x.1 = some (.lst (intsV x.2))) → KvA F' vs ((ks.zip rows).map fun x => (.inl (x.1 : Int), .d (dNs x.2)))
  | [], [], [], _, h, _, _, _ => by cases h; exact .nil
  | k :: ks, p :: ps, r :: rows, _, h, h1, h2, h3 => by
    cases h with | cons w t =>
    obtain ⟨w1, w2⟩ := w
    refine .cons ⟨w1, ?_⟩ (kv_rows t (by simpa using h1) (by simpa using h2) fun x hx => h3 x (List.mem_cons_of_mem _ hx))
    have w2 : _ = V.ref p := w2
    rw [w2]
    exact .lst (h3 (p, r) List.mem_cons_self) repN_of
end
section
variable {B : Base} {Δ : List Sd} {C : Cs} {σ : L2.St} {H F : Hp} {ta tb te : TE} {tu tz : TS} {D : Ends} {K : PySem.W.Frag} {g : TG}
theorem q_tgtX {α : Type} {m : Mono} {js : List Nat} (P : α → Prop) (d : α → PyData) (u : α → List Sd → List Sd) (e : Ev B Δ C te (.p m)) (hm : ∀ F v, m.φ F v → ∃ a, P a ∧ Rep F v (d a)) (T : ∀ a, Tg g js (d a) (u a)) (k : ∀ a, P a → WP B (u a Δ) C tz D) : WP B Δ C (tSeq (tAsg te g) tz) D := fun σ H ⟨F, hs⟩ =>
  e σ H F hs _ fun v F1 H1 h1 e1 e1' w => by
    obtain ⟨a, pa, wa⟩ := hm F1 v w
    exact T a F1 H1 σ Δ v h1.fh h1.sl wa _ fun σ' s' _ => k a pa _ _ ⟨F1, h1.slots s'⟩
theorem s_tgtX {α : Type} {m : Mono} {g : TG} {js : List Nat} (P : α → Prop) (d : α → PyData) (u : α → List Sd → List Sd) (e : Ev B Δ C te (.p m)) (hm : ∀ F v, m.φ F v → ∃ a, P a ∧ Rep F v (d a)) (T : ∀ a, Tg g js (d a) (u a)) (k : ∀ a, P a → Nx B (u a Δ) C D.nx) : WP B Δ C (tAsg te g) D := fun σ H ⟨F, hs⟩ =>
  e σ H F hs _ fun v F1 H1 h1 e1 e1' w => by
    obtain ⟨a, pa, wa⟩ := hm F1 v w
    exact T a F1 H1 σ Δ v h1.fh h1.sl wa _ fun σ' s' _ => k a pa _ _ ⟨F1, h1.slots s'⟩
/-- some data with a property, and lists of such -/
def DM (P : PyData → Prop) : Mono := ⟨fun F v => ∃ d, P d ∧ Rep F v d, fun F F' v e ⟨d, h1, h2⟩ => ⟨d, h1, Rep.mono e _ _ h2⟩⟩
theorem ev_dm {d : PyData} {P : PyData → Prop} (h : Ev B Δ C te (.d d)) (hp : P d) : Ev B Δ C te (.p (DM P)) := ev_to h fun F v w => ⟨d, hp, w⟩
theorem asL_h {a : Addr} {xs : List V} {ss : List Sd} (h : B.H a = some (.lst xs)) (hC : a ∉ C.map (·.1)) (r : SlA B.F xs ss) : AsL B Δ C (.v (.ref a)) ss := fun σ H F v hs hv => by
  cases hv
  exact ⟨a, xs, rfl, hs.hh _ _ hC h, r.mono hs.ff⟩
end
section
variable {B : Base} {Δ : List Sd} {C : Cs} {σ : L2.St} {H F : Hp} {ta tb te : TE} {tu tz : TS} {D : Ends} {K : PySem.W.Frag}
theorem s_rev {k : Nat} {l : Addr} {ds : List PyData} (hc : C[k]? = some (l, .lst (ds.map Sd.d))) (ho : Ev B Δ C ta (.v (.ref l))) (kk : Nx B Δ (C.set k (l, .lst (ds.reverse.map Sd.d))) D.nx) : WP B Δ C (tDrop (tBM0 K "list" rReverse ta)) D := fun σ H ⟨F, hs⟩ =>
  ho σ H F hs _ fun v F1 H1 h1 e1 e1' w => by
    cases w
    obtain ⟨_, o, hx, xs, rfl, r⟩ := h1.cell hc
    exact ⟨.inl ⟨rfl, xs, SqL.of hx⟩, l, xs, rfl, rfl, hx, kk _ _ ⟨F1, h1.put hc ⟨_, rfl, r.rep.reverse.sl⟩⟩⟩
end
/-- a dict from points to points -/
def dK2 (ps : List (Nat × Nat)) : List (Key × Sd) := ps.map fun x => (.inl (x.1 : Int), .d (dN x.2))
theorem look_dK2 {x y : Nat} : ∀ {ps : List (Nat × Nat)}, (ps.map (·.1)).Nodup → (x, y) ∈ ps → lookA (dK2 ps) (.inl (x : Int)) = some (.d (dN y))
  | p :: ps, hn, h => by
    show lookA ((.inl (p.1 : Int), .d (dN p.2)) :: dK2 ps) (.inl (x : Int)) = _
    rw [lookA_cons]
    have hn' := List.nodup_cons.mp hn
    rcases List.mem_cons.mp h with e | h
    · subst e; rw [if_pos rfl]
    · have hne : ¬ p.1 = x := fun e => hn'.1 (List.mem_map.mpr ⟨(x, y), h, e.symm⟩)
      rw [if_neg fun z => hne (by injection z; omega)]
      exact look_dK2 hn'.2 h
theorem look_dK2_some {x : Nat} : ∀ {ps : List (Nat × Nat)}, (lookA (dK2 ps) (.inl (x : Int))).isSome = decide (x ∈ ps.map (·.1))
  | [] => rfl
  | p :: ps => by
    show (lookA ((.inl (p.1 : Int), .d (dN p.2)) :: dK2 ps) (.inl (x : Int))).isSome = _
    rw [lookA_cons]
    by_cases c : p.1 = x
    · subst c; rw [if_pos rfl]; simp
    · rw [if_neg (fun z => c (by injection z; omega)), look_dK2_some, decide_eq_decide, List.map_cons, List.mem_cons]
      exact ⟨.inr, fun h => h.resolve_left fun e => c e.symm⟩
theorem put_dK2 {x y : Nat} {ps : List (Nat × Nat)} (h : x ∉ ps.map (·.1)) : putA (dK2 ps) (.inl (x : Int)) (.d (dN y)) = dK2 (ps ++ [(x, y)]) := by
  have : lookA (dK2 ps) (.inl (x : Int)) = none := by
    have h2 := look_dK2_some (x := x) (ps := ps)
    rw [decide_eq_false h] at h2
    exact Option.isSome_eq_false_iff.mp h2 |> Option.isNone_iff_eq_none.mp
  rw [putA_new _ this]
  unfold dK2; rw [List.map_append]; rfl
/-! ### a caller's dict is walked over -/
def KeepD (F F' : Hp) : Prop := ∀ a xs, (F a = some (.lst xs) → F' a = some (.lst xs)) ∧ (F a = some (.tup xs) → F' a = some (.tup xs))
mutual
theorem Rep.keep {F F' : Hp} (e : KeepD F F') : ∀ (d : PyData) (v : V), Rep F v d → Rep F' v d
  | _, _, .non => .non
  | _, _, .bl b => .bl b
  | _, _, .int i => .int i
  | _, _, .str x => .str x
  | _, _, .lst h r => .lst ((e _ _).1 h) (RepA.keep e _ _ r)
  | _, _, .tup h r => .tup ((e _ _).2 h) (RepA.keep e _ _ r)
theorem RepA.keep {F F' : Hp} (e : KeepD F F') : ∀ (ds : List PyData) (vs : List V), RepA F vs ds → RepA F' vs ds
  | _, _, .nil => .nil
  | _, _, .cons h r => .cons (Rep.keep e _ _ h) (RepA.keep e _ _ r)
end
def plainS : Sd → Prop
  | .p _ => False
  | _ => True
def plainC : Cd → Prop
  | .lst ss => ∀ s ∈ ss, plainS s
  | .dk kvs => ∀ x ∈ kvs, plainS x.2
  | .dt kvs => ∀ x ∈ kvs, plainS x.2
  | .raw _ => True
theorem SlV.keep {F F' : Hp} (e : KeepD F F') {v : V} : ∀ {s : Sd}, plainS s → SlV F v s → SlV F' v s
  | .no, _, h => h
  | .any, _, h => h
  | .d _, _, h => Rep.keep e _ _ h
  | .v _, _, h => h
theorem SlO.keep {F F' : Hp} (e : KeepD F F') : ∀ {o : Option V} {s : Sd}, plainS s → SlO F o s → SlO F' o s
  | some v, s, p, h => SlV.keep e (s := s) p h
  | none, .no, _, h => h
  | none, .any, _, h => h
  | none, .d _, _, h => h
  | none, .v _, _, h => h
theorem Sl.keep {F F' : Hp} (e : KeepD F F') : ∀ {σ : L2.St} {Δ : List Sd}, (∀ s ∈ Δ, plainS s) → Sl F σ Δ → Sl F' σ Δ
  | _, _, _, .nil => .nil
  | _, _, p, .cons h t => .cons (SlO.keep e (p _ List.mem_cons_self) h) (Sl.keep e (fun s hs => p s (List.mem_cons_of_mem _ hs)) t)
theorem SlA.keep {F F' : Hp} (e : KeepD F F') : ∀ {σ : List V} {Δ : List Sd}, (∀ s ∈ Δ, plainS s) → SlA F σ Δ → SlA F' σ Δ
  | _, _, _, .nil => .nil
  | _, _, p, .cons h t => .cons (SlV.keep e (p _ List.mem_cons_self) h) (SlA.keep e (fun s hs => p s (List.mem_cons_of_mem _ hs)) t)
theorem KvA.keep {κ : Type} {F F' : Hp} (e : KeepD F F') : ∀ {vs : List (κ × V)} {kvs : List (κ × Sd)}, (∀ x ∈ kvs, plainS x.2) → KvA F vs kvs → KvA F' vs kvs
  | _, _, _, .nil => .nil
  | _, _, p, .cons h t => .cons ⟨h.1, SlV.keep e (p _ List.mem_cons_self) h.2⟩ (KvA.keep e (fun s hs => p s (List.mem_cons_of_mem _ hs)) t)
theorem CellOk.keep {F F' : Hp} (e : KeepD F F') {o : HO} : ∀ {c : Cd}, plainC c → CellOk F o c → CellOk F' o c
  | .lst ds, p, ⟨xs, h, r⟩ => ⟨xs, h, SlA.keep e p r⟩
  | .dk kvs, p, ⟨xs, h, r⟩ => ⟨xs, h, KvA.keep e p r⟩
  | .dt kvs, p, ⟨xs, h, r⟩ => ⟨xs, h, KvA.keep e p r⟩
  | .raw u, _, h => h
section
variable {B : Base} {Δ : List Sd} {C : Cs} {σ : L2.St} {H F : Hp} {ta tb te : TE} {tu tz : TS} {D : Ends} {K : PySem.W.Frag}
def cutOf (F2 : Hp) (d : Addr) : Hp := fun x => if x = d then none else F2 x
theorem cutOf_ne {F2 : Hp} {d x : Addr} (h : x ≠ d) : cutOf F2 d x = F2 x := if_neg h
theorem cutOf_d {F2 : Hp} {d : Addr} : cutOf F2 d d = none := if_pos rfl
/-- what is told of the base while the dict at d is locked -/
structure Lkd (B : Base) (C : Cs) (d : Addr) (vs : List (Key × V)) (F1 H1 : Hp) (od : Obj) : Prop where
  fd : F1 d = some (.frz od (.dK vs))
  ff : Ex B.F F1
  hh : ∀ a o, a ≠ d → a ∉ C.map (·.1) → B.H a = some o → H1 a = some o
  free : ∀ a, H1 a = none → B.H a = none
theorem q_lockB {α : Type} {inv : α → Prop} {Δf : α → List Sd} {Cf : α → Cs} {d : Addr} {vs : List (Key × V)} (hB : B.H d = some (.dK vs)) (hBF : B.F d = none) (hC : d ∉ C.map (·.1)) (hCB : ∀ c ∈ C, B.H c.1 = none)
    (hp : ∀ a, inv a → (∀ s ∈ Δf a, plainS s) ∧ ∀ c ∈ Cf a, plainC c.2)
    (h : ∀ F1 H1 od (D1 : Ends), Lkd B C d vs F1 H1 od → (∀ a, inv a → Nx ⟨F1, H1, []⟩ (Δf a) (Cf a) D1.nx) → WP ⟨F1, H1, []⟩ Δ C tu D1)
    (k : ∀ a, inv a → WP B (Δf a) (Cf a) tz D) : WP B Δ C (tSeq (tLock tu) tz) D := fun σ H ⟨F, hs⟩ => by
  have hHd : H d = some (.dK vs) := hs.hh _ _ hC hB
  have hFd : F d = none := by
    cases q : F d with
    | none => rfl
    | some o =>
      rcases hs.gr d (by rw [q]; simp) with z | z | ⟨ys, z⟩
      · exact absurd hBF z
      · rw [hB] at z; cases z
      · rw [hB] at z; cases z
  refine ⟨d, .dK vs, hHd, trivial, fun od => ?_⟩
  have e1 : Ex F (upd F d (.frz od (.dK vs))) := Ex.new hFd
  have hst : FD.St ⟨upd F d (.frz od (.dK vs)), upd H d (.frz od (.dK vs)), []⟩ Δ C σ (upd H d (.frz od (.dK vs))) (upd F d (.frz od (.dK vs))) := by
    refine ⟨Ex.refl _, fun a o q => ?_, fun _ _ _ e => e, fun a n => .inl n, hs.sl.mono e1, fun c hc => ?_, hs.nd, fun g hg => by cases hg⟩
    · by_cases z : a = d
      · subst z; rw [upd_same] at q; cases q; exact upd_same
      · rw [upd_ne z] at q ⊢; exact hs.fh _ _ q
    · obtain ⟨c1, o, c2, c3⟩ := hs.ce c hc
      have z : c.1 ≠ d := fun z => hC (List.mem_map.mpr ⟨c, hc, z⟩)
      exact ⟨by rw [upd_ne z]; exact c1, o, by rw [upd_ne z]; exact c2, c3.mono e1⟩
  refine h _ _ od _ ⟨upd_same, hs.ff.trans e1, fun a o z n q => ?_, fun a q => ?_⟩ (fun a ha σ' H' ⟨F2, h2⟩ => ?_) σ _ ⟨_, hst⟩
  · rw [upd_ne z]; exact hs.hh a o n q
  · have z : a ≠ d := fun z => by subst z; rw [upd_same] at q; cases q
    rw [upd_ne z] at q
    exact hs.free q
  · have hF2 : F2 d = some (.frz od (.dK vs)) := h2.ff _ _ upd_same
    have hH2 : H' d = some (.frz od (.dK vs)) := h2.fh _ _ hF2
    refine ⟨hH2, k a ha σ' (upd H' d (.dK vs)) ⟨cutOf F2 d, ?_⟩⟩
    have f3 : ∀ x, x ≠ d → cutOf F2 d x = F2 x := fun x z => cutOf_ne z
    have f3d : cutOf F2 d d = none := cutOf_d
    have hF2F : ∀ a o, F a = some o → F2 a = some o := fun a o q => h2.ff _ _ (e1 _ _ q)
    have hFne : ∀ a o, F a = some o → a ≠ d := fun a o q z => by rw [z, hFd] at q; cases q
    have keep : KeepD F2 (cutOf F2 d) := fun a xs => by
      have : ∀ o, F2 a = some o → (∀ u, o ≠ .frz od u) → cutOf F2 d a = some o := fun o q n => by
        by_cases z : a = d
        · subst z; rw [hF2] at q; cases q; exact absurd rfl (n _)
        · rw [f3 a z]; exact q
      exact ⟨fun q => this _ q fun u z => (by cases z), fun q => this _ q fun u z => (by cases z)⟩
    obtain ⟨p1, p2⟩ := hp a ha
    refine ⟨fun x o q => ?_, fun x o q => ?_, fun x o n q => ?_, fun x n => ?_, Sl.keep keep p1 h2.sl, fun c hc => ?_, h2.nd, fun g hg => ?_⟩
    · have := hs.ff _ _ q
      rw [f3 x (hFne _ _ this)]; exact hF2F _ _ this
    · by_cases z : x = d
      · subst z; rw [f3d] at q; cases q
      · rw [f3 x z] at q; rw [upd_ne z]; exact h2.fh _ _ q
    · by_cases z : x = d
      · subst z; rw [hB] at q; cases q; exact upd_same
      · rw [upd_ne z]
        refine h2.hh x o n ?_
        show upd H d (.frz od (.dK vs)) x = some o
        rw [upd_ne z]
        exact hs.hh x o (fun m => by
          obtain ⟨c, hc, e⟩ := List.mem_map.mp m
          have := hCB c hc
          rw [e, q] at this; cases this) q
    · have z : x ≠ d := fun z => n (by subst z; exact f3d)
      rw [f3 x z] at n
      rcases h2.gr x n with w | w | w
      · have w : upd F d (.frz od (.dK vs)) x ≠ none := w
        rw [upd_ne z] at w
        exact hs.gr x w
      · have w : upd H d (.frz od (.dK vs)) x = none := w
        rw [upd_ne z] at w
        exact .inr (.inl (hs.free w))
      · obtain ⟨ys, w⟩ := w
        have w : upd H d (.frz od (.dK vs)) x = some (.tup ys) := w
        rw [upd_ne z] at w
        exact .inr (hs.isT ⟨ys, w⟩)
    · obtain ⟨c1, o, c2, c3⟩ := h2.ce c hc
      have z : c.1 ≠ d := fun z => by rw [z, hF2] at c1; cases c1
      exact ⟨by rw [f3 _ z]; exact c1, o, by rw [upd_ne z]; exact c2, CellOk.keep keep (p2 c hc) c3⟩
    · refine SlV.mono (fun x o q => ?_) (hs.gg g hg)
      rw [f3 x (hFne _ _ q)]; exact hF2F _ _ q
theorem Src.keys {d : Addr} {od : Obj} {vs : List (Key × V)} {ks : List Nat} (hF : B.F d = some (.frz od (.dK vs))) (hks : vs.map (·.1) = ks.map fun p : Nat => (.inl (p : Int) : Key)) (h : Ev B Δ C te (.v (.ref d))) : Src B Δ C (iKeys te) (ks.map dN) := fun σ H F hs R q => h σ H F hs _ fun v F1 H1 h1 e1 e1' w => by
  cases w
  have hl : vs.length = ks.length := by have := congrArg List.length hks; rwa [List.length_map, List.length_map] at this
  have hF1 := h1.ff _ _ hF
  refine ⟨d, od, rfl, .inl ⟨vs, h1.fh _ _ hF1, q _ F1 H1 h1 e1 e1' ⟨fun i F2 H2 x y hi => ⟨⟨y _ _ (x _ _ hF1), by rw [hl]; rw [List.length_map] at hi; exact hi⟩, fun z H' hy => ?_⟩, fun i F2 H2 x y hi => ⟨y _ _ (x _ _ hF1), by rw [hl]; rw [List.length_map] at hi; exact hi⟩⟩⟩⟩
  obtain ⟨rfl, k, v, h3, rfl⟩ := hy
  have h4 : (vs.map (·.1))[i]? = some k := by rw [List.getElem?_map, h3]; rfl
  rw [hks, List.getElem?_map] at h4
  cases q2 : ks[i]? with
  | none => rw [q2] at h4; cases h4
  | some p =>
    rw [q2] at h4
    cases h4
    exact ⟨rfl, dN p, by rw [List.getElem?_map, q2]; rfl, .int _⟩
end
theorem kva_keys {κ : Type} {F : Hp} : ∀ {vs : List (κ × V)} {kvs : List (κ × Sd)}, KvA F vs kvs → vs.map (·.1) = kvs.map (·.1)
  | _, _, .nil => rfl
  | _, _, .cons h t => by rw [List.map_cons, List.map_cons, kva_keys t, h.1]
/-- rows of points told by a dict of the caller's that isn't locked -/
structure DictB (F H : Hp) (d : Addr) (near : List (List Nat)) (ks : List Nat) (vs : List (Key × V)) : Prop where
  hd : H d = some (.dK vs)
  fd : F d = none
  kv : KvA F vs (dictN near ks)
  nd : ks.Nodup
  cl : ∀ p ∈ ks, p < near.length ∧ ∀ x ∈ near.getD p [], x ∈ ks
  ok : NearOk near
theorem DictB.dict {F H : Hp} {d : Addr} {near : List (List Nat)} {ks : List Nat} {vs : List (Key × V)} (h : DictB F H d near ks vs) : DictN F H d near ks := ⟨⟨vs, .inl h.hd, h.kv⟩, h.cl⟩
theorem DictB.keys {F H : Hp} {d : Addr} {near : List (List Nat)} {ks : List Nat} {vs : List (Key × V)} (h : DictB F H d near ks vs) : vs.map (·.1) = ks.map fun p : Nat => (.inl (p : Int) : Key) := by
  rw [kva_keys h.kv]; unfold dictN; rw [List.map_map]; rfl
theorem DictB.len {F H : Hp} {d : Addr} {near : List (List Nat)} {ks : List Nat} {vs : List (Key × V)} (h : DictB F H d near ks vs) : ks.length ≤ 16 := Nat.le_trans (nodup_len h.nd fun x hx => (h.cl x hx).1) h.ok.1
/-! ### sorted(d), keys ints; a caller's dict with tuple keys -/
def rSortedDI : List V → Hp → VK → Prop := fun xs H Q => ∃ (a : Addr) (kvs : List (Key × V)) (ks : List Int), xs = [.ref a] ∧ Rd H a (.dK kvs) ∧ kvs.map (·.1) = ks.map Sum.inl ∧ ks.length < 64 ∧
    ∀ (ys : List Int) (p : Addr), ys.Perm ks → ys.Pairwise (· ≤ ·) → H p = none → Q (.ref p) (upd H p (.lst (ys.map V.int)))
theorem cr_sortedDI {X : Cx} (hc : X.calm = true) : CallR X (.builtin "sorted") rSortedDI := call_sortedDI hc
section
variable {B : Base} {Δ : List Sd} {C : Cs} {ta tb te : TE}
theorem rcN_sortedDK {k : Nat} {l : Addr} {kvs : List (Key × Sd)} {ns : List Nat} (hc : C[k]? = some (l, .dk kvs)) (hk : kvs.map (·.1) = ns.map fun n : Nat => (.inl (n : Int) : Key)) (hl : ns.length < 64) : RCN B Δ C rSortedDI [.v (.ref l)] (.lst ((sortN ns).map sN)) := fun σ H F hs xs w Q q => by
  cases w with | cons w w' =>
  cases w'
  cases w
  obtain ⟨vs, ho, r⟩ := cell_dk hs hc
  refine ⟨l, vs, ns.map fun n : Nat => (n : Int), rfl, .inl ho, by rw [kva_keys r, hk, List.map_map]; rfl, by rw [List.length_map]; exact hl, fun ys p hp hw hn => ?_⟩
  have e : ys = (sortN ns).map fun n : Nat => (n : Int) := by
    rw [← sortI_nat]; exact sortI_uniq hp hw
  subst e
  refine q.made hs (o := .lst (((sortN ns).map fun n : Nat => (n : Int)).map V.int)) ⟨_, rfl, ?_⟩ p hn
  rw [List.map_map]
  exact slN_of
theorem ev_dniBT {d : Addr} {vs : List (List Key × V)} {x : List Key} (hB : B.H d = some (.dT vs)) (hC : d ∉ C.map (·.1)) (hy : Ev B Δ C ta (.d (.tuple (x.map keyD)))) (hd : Ev B Δ C tb (.v (.ref d))) : Ev B Δ C (tDNotIn ta tb) (.d (.bool (!(valV vs x).isSome))) := fun σ H F hs Q q =>
  hy σ H F hs _ fun y F1 H1 h1 e1 e1' w1 => hd σ H1 F1 h1 _ fun z F2 H2 h2 e2 e2' w2 => by
    cases w2
    obtain ⟨b, xs, rfl, hb, rx⟩ := Rep.tup_inv w1
    rw [rx.keys] at hb
    exact ⟨d, valV vs x, rfl, DGet.t (h2.hh _ _ hC hB) (h2.fh _ _ (e2 _ _ hb)), q _ F2 H2 h2 (e1.trans e2) (e1'.trans e2') (.bl _)⟩
end
section
variable {B : Base} {Δ : List Sd} {C : Cs} {ta tb te : TE} {tz : TS} {D : Ends} {K : PySem.W.Frag} {s : Sd}
/-- x = xs.pop(i) -/
theorem q_popAsg {k x : Nat} {l : Addr} {ss : List Sd} {i : Int} {j : Nat} (hc : C[k]? = some (l, .lst ss)) (ho : Ev B Δ C ta (.v (.ref l))) (hi : Ev B Δ C te (.d (.int i))) (hj : i = (j : Int)) (hs : ss[j]? = some s) (hz : ss.length < 100000)
    (kk : WP B (Δ.set x s) (C.set k (l, .lst (ss.eraseIdx j))) tz D) : WP B Δ C (tSeq (tAsg (tBM K "list" rPopAt ta (tCons te tNil)) (gName x)) tz) D := fun σ H ⟨F, hst⟩ =>
  ho σ H F hst _ fun v F1 H1 st1 e1 e1' w1 => by
    cases w1
    obtain ⟨_, o, hx, xs, rfl, _⟩ := st1.cell hc
    refine ⟨.inl ⟨rfl, xs, SqL.of hx⟩, hi σ H1 F1 st1 _ fun v F3 H3 st3 e3 e3' w3 => ?_⟩
    cases w3
    obtain ⟨_, o, hx, xs, rfl, r⟩ := st3.cell hc
    subst hj
    have hjl : j < ss.length := (List.getElem?_eq_some_iff.mp hs).1
    obtain ⟨y, hy, wy⟩ := r.get hs
    refine ⟨l, xs, (j : Int), j, y, rfl, rfl, hx, by omega, ?_, ?_, hy, ?_⟩
    · have : j < 100000 := by omega
      omega
    · exact (ixN_seq (ixN_nat (n := xs.length) (j := j) (by rw [r.length]; exact hjl))).1
    · have st4 := st3.put hc (c' := .lst (ss.eraseIdx j)) (o := .lst (xs.eraseIdx j)) ⟨_, rfl, r.eraseIdx j⟩
      exact kk _ _ ⟨F3, st4.slots (Sl.set (o := some y) (s := s) wy x st4.sl)⟩
end
end FU

set_option Elab.async false
set_option linter.all false
set_option maxRecDepth 100000
set_option maxHeartbeats 1000000
set_option autoImplicit false
/-! drawing.py at work -/
namespace DW
open PySem L2 FD FX FQ FI FN FB FW FK FU DA DB DC DD
open FZ hiding ev_lstM
open Evl (Ex)
/-! ### near_of -/
def bothT (B : List Tie) : List (Nat × Nat) := B.flatMap fun t => [(t.1, t.2), (t.2, t.1)]
def addK (ks : List Nat) (x : Nat) : List Nat := if x ∈ ks then ks else ks ++ [x]
def keysD (D : List (Nat × Nat)) : List Nat := D.foldl (fun ks d => addK ks d.1) []
def rowD (D : List (Nat × Nat)) (k : Nat) : List Nat := (D.filter fun d => decide (d.1 = k)).map (·.2)
def rowsD (D : List (Nat × Nat)) : List (List Nat) := (keysD D).map (rowD D)
theorem keysD_snoc (D : List (Nat × Nat)) (d : Nat × Nat) : keysD (D ++ [d]) = addK (keysD D) d.1 := by unfold keysD; rw [List.foldl_append]; rfl
theorem rowD_snoc (D : List (Nat × Nat)) (d : Nat × Nat) (k : Nat) : rowD (D ++ [d]) k = if d.1 = k then rowD D k ++ [d.2] else rowD D k := by
  unfold rowD
  rw [List.filter_append, List.map_append]
  by_cases c : d.1 = k
  · rw [if_pos c]; simp [List.filter_cons, c]
  · rw [if_neg c]; simp [List.filter_cons, c]
theorem keysD_ok : ∀ D : List (Nat × Nat), (keysD D).Nodup ∧ ∀ x, x ∈ keysD D ↔ ∃ d ∈ D, d.1 = x := by
  refine rev_ind ⟨List.nodup_nil, fun x => by simp [keysD]⟩ fun D d ih => ?_
  rw [keysD_snoc]
  unfold addK
  by_cases c : d.1 ∈ keysD D
  · rw [if_pos c]
    refine ⟨ih.1, fun x => ?_⟩
    rw [ih.2]
    constructor
    · rintro ⟨e, he, rfl⟩; exact ⟨e, List.mem_append_left _ he, rfl⟩
    · rintro ⟨e, he, rfl⟩
      rcases List.mem_append.mp he with he | he
      · exact ⟨e, he, rfl⟩
      · rw [List.mem_singleton.mp he]; exact (ih.2 _).mp c
  · rw [if_neg c]
    refine ⟨List.nodup_append.mpr ⟨ih.1, by simp, fun a ha b hb e => c (by rw [List.mem_singleton.mp hb] at e; rw [← e]; exact ha)⟩, fun x => ?_⟩
    rw [List.mem_append, ih.2]
    constructor
    · rintro (⟨e, he, rfl⟩ | h)
      · exact ⟨e, List.mem_append_left _ he, rfl⟩
      · exact ⟨d, by simp, (List.mem_singleton.mp h).symm⟩
    · rintro ⟨e, he, rfl⟩
      rcases List.mem_append.mp he with he | he
      · exact .inl ⟨e, he, rfl⟩
      · right; rw [List.mem_singleton.mp he]; simp
theorem rowsD_in {D : List (Nat × Nat)} {a b : Nat} (h : a ∈ keysD D) : keysD (D ++ [(a, b)]) = keysD D ∧ rowsD (D ++ [(a, b)]) = (rowsD D).set ((keysD D).idxOf a) ((rowsD D).getD ((keysD D).idxOf a) [] ++ [b]) := by
  have hk : keysD (D ++ [(a, b)]) = keysD D := by rw [keysD_snoc]; exact if_pos h
  refine ⟨hk, ?_⟩
  have hn := (keysD_ok D).1
  have hj := List.idxOf_lt_length_of_mem h
  have hget : (keysD D)[(keysD D).idxOf a] = a := List.getElem_idxOf hj
  unfold rowsD
  rw [hk]
  refine List.ext_getElem? fun i => ?_
  by_cases c : i = (keysD D).idxOf a
  · subst c
    rw [List.getElem?_set_self (by rw [List.length_map]; exact hj), List.getElem?_map, List.getElem?_eq_getElem hj, hget]
    rw [List.getD_eq_getElem?_getD, List.getElem?_map, List.getElem?_eq_getElem hj, hget]
    show some (rowD (D ++ [(a, b)]) a) = some (rowD D a ++ [b])
    rw [rowD_snoc, if_pos rfl]
  · rw [List.getElem?_set_ne (Ne.symm c), List.getElem?_map, List.getElem?_map]
    cases q : (keysD D)[i]? with
    | none => rfl
    | some k =>
      have hne : a ≠ k := fun e => by
        subst e
        obtain ⟨hi, e2⟩ := List.getElem?_eq_some_iff.mp q
        exact c ((List.getElem_inj (h₀ := hi) (h₁ := hj) hn).mp (e2.trans hget.symm))
      show some (rowD (D ++ [(a, b)]) k) = some (rowD D k)
      rw [rowD_snoc, if_neg hne]
theorem rowsD_out {D : List (Nat × Nat)} {a b : Nat} (h : a ∉ keysD D) : keysD (D ++ [(a, b)]) = keysD D ++ [a] ∧ rowsD (D ++ [(a, b)]) = rowsD D ++ [[b]] := by
  have hk : keysD (D ++ [(a, b)]) = keysD D ++ [a] := by rw [keysD_snoc]; exact if_neg h
  refine ⟨hk, ?_⟩
  unfold rowsD
  rw [hk, List.map_append]
  congr 1
  · refine List.map_congr_left fun k hk' => ?_
    rw [rowD_snoc, if_neg (fun e => h (by have e : a = k := e; rw [e]; exact hk'))]
  · show [rowD (D ++ [(a, b)]) a] = [[b]]
    rw [rowD_snoc, if_pos rfl]
    have : rowD D a = [] := by
      unfold rowD
      rw [List.filter_eq_nil_iff.mpr fun d hd e => h (((keysD_ok D).2 a).mpr ⟨d, hd, by simpa using e⟩)]; rfl
    rw [this]; rfl
theorem bothT_snoc (B : List Tie) (t : Tie) : bothT (B ++ [t]) = bothT B ++ [(t.1, t.2)] ++ [(t.2, t.1)] := by unfold bothT; rw [List.flatMap_append]; simp
theorem rowD_both {n : Nat} {B : List Tie} (h : FT.Nrm n B) (k : Nat) : rowD (bothT B) k = (nearOf n B).getD k [] := by
  rw [← h.others k]
  have hr := fun t ht => (h.rng t ht).1
  clear h
  induction B with
  | nil => rfl
  | cons t B ih =>
    have ih := ih fun u hu => hr u (List.mem_cons_of_mem _ hu)
    have h1 := hr t List.mem_cons_self
    have e : bothT (t :: B) = (t.1, t.2) :: (t.2, t.1) :: bothT B := rfl
    rw [e]
    have e2 : ∀ d D, rowD (d :: D) k = if d.1 = k then d.2 :: rowD D k else rowD D k := fun d D => by
      unfold rowD; rw [List.filter_cons]
      by_cases c : d.1 = k <;> simp [c]
    rw [e2, e2, ih, List.filter_cons]
    unfold FT.hasP FT.oth
    dsimp only
    by_cases c1 : t.1 = k
    · subst c1
      have c2 : ¬ t.2 = t.1 := by omega
      rw [if_pos rfl, if_neg c2, if_pos (by simp), List.map_cons, show t.1 + t.2 - t.1 = t.2 by omega]
    · by_cases c2 : t.2 = k
      · subst c2
        rw [if_neg c1, if_pos rfl, if_pos (by simp), List.map_cons, show t.1 + t.2 - t.2 = t.1 by omega]
      · rw [if_neg c1, if_neg c2, if_neg (by simp; omega)]
def keysT (B : List Tie) : List Nat := keysD (bothT B)
theorem mem_keysT {B : List Tie} {x : Nat} : x ∈ keysT B ↔ Pt B x := by
  unfold keysT Pt
  rw [(keysD_ok _).2]
  unfold bothT
  constructor
  · rintro ⟨d, hd, rfl⟩
    obtain ⟨t, ht, h⟩ := List.mem_flatMap.mp hd
    have h : d = (t.1, t.2) ∨ d = (t.2, t.1) := by simpa using h
    rcases h with rfl | rfl
    · exact ⟨t, ht, .inl rfl⟩
    · exact ⟨t, ht, .inr rfl⟩
  · rintro ⟨t, ht, h⟩
    rcases h with rfl | rfl
    · exact ⟨(t.1, t.2), List.mem_flatMap.mpr ⟨t, ht, by simp⟩, rfl⟩
    · exact ⟨(t.2, t.1), List.mem_flatMap.mpr ⟨t, ht, by simp⟩, rfl⟩
def R_near_of : Hp → Hp → List Sd → Cd → Prop := fun _ _ ss c => ∃ B, ss = [.d (dTies B)] ∧ FT.Nrm 16 B ∧ B.length ≤ 40 ∧ c = .dk (dictN (nearOf 16 B) (keysT B))
def sp_near_of (K : PySem.W.Frag) (C : Addr) : Sp := SpN R_near_of
/-- the fields: a list of the caller's -/
def FldV (F H : Hp) (fields : List (List Nat)) (nv : Sd) : Prop := ∃ l xs, nv = .v (.ref l) ∧ H l = some (.lst xs) ∧ RepA F xs (fields.map dNs)
def FldOk (fields : List (List Nat)) : Prop := fields.length ≤ 100 ∧ ∀ f ∈ fields, f.length ≤ 100
def R_fields_for : Hp → Hp → List Sd → Sd → Prop := fun F H ss s => ∃ fields fv ends, ss = [fv, .d (dNs ends)] ∧ FldV F H fields fv ∧ FldOk fields ∧ ends.length ≤ 100 ∧ s = .d (dNs (fits fields ends))
def sp_fields_for (K : PySem.W.Frag) (C : Addr) : Sp := SpD R_fields_for
def R_parted : Hp → Hp → List Sd → Sd → Prop := fun _ _ ss s => ∃ f way, ss = [.d (dNs f), .d (dNs way)] ∧ f.length ≤ 100 ∧ way.length ≤ 100 ∧ 2 ≤ way.length ∧ way.headD 0 ∈ f ∧ way.getLastD 0 ∈ f ∧ s = .d (dNear (partedL f way))
def sp_parted (K : PySem.W.Frag) (C : Addr) : Sp := SpD R_parted
abbrev dPc (p : List Nat × List Nat) : PyData := .tuple [dNs p.1, dNs p.2]
abbrev dPcs (ps : List (List Nat × List Nat)) : PyData := .list (ps.map dPc)
def BestM (fields : List (List Nat)) (left : List (List Nat × List Nat)) : Mono := DM fun d => ∃ p ∈ left, d = .tuple [dNs p.1, dNs p.2, dNs (fits fields p.1)] ∧ ∀ q ∈ left, (fits fields p.1).length ≤ (fits fields q.1).length
def R_chosen : Hp → Hp → List Sd → Sd → Prop := fun F H ss s => ∃ fields fv left, ss = [fv, .d (dPcs left)] ∧ FldV F H fields fv ∧ FldOk fields ∧ left ≠ [] ∧ left.length ≤ 1000 ∧ (∀ p ∈ left, p.1.length ≤ 100) ∧ s = .p (BestM fields left)
def sp_chosen (K : PySem.W.Frag) (C : Addr) : Sp := SpD R_chosen
def WayM (near : List (List Nat)) (start : Nat) (goals inner : List Nat) : Mono := DM fun d => ∃ way, d = dNs way ∧ (IsWay near start goals inner way ∨ (way = [] ∧ ¬ ∃ w, IsWay near start goals inner w))
def R_way_in : Hp → Hp → List Sd → Sd → Prop := fun F H ss s => ∃ near ks start goals inner d, ss = [.v (.ref d), sN start, .d (dNs goals), .d (dNs inner)] ∧ DictN F H d near ks ∧ NearOk near ∧ start ∈ ks ∧ (∀ x ∈ inner, x ∈ ks) ∧ start ∉ inner ∧ start ∉ goals ∧ (∀ g ∈ goals, g ∉ inner) ∧ s = .p (WayM near start goals inner)
def sp_way_in (K : PySem.W.Frag) (C : Addr) : Sp := SpD R_way_in
def R_first_ring : Hp → Hp → List Sd → Sd → Prop := fun F H ss s => ∃ near ks vs d t, ss = [.v (.ref d), .d (dTie t)] ∧ DictB F H d near ks vs ∧ t.1 ∈ ks ∧ t.1 ≠ t.2 ∧ s = .p (WayM near t.1 [t.2] (ks.filter fun p => !decide (p = t.1 ∨ p = t.2)))
def sp_first_ring (K : PySem.W.Frag) (C : Addr) : Sp := SpD R_first_ring
def N_near_of : List Str := ["ties", "near", "one", "other"]
def t_near_of (K : PySem.W.Frag) (C : Addr) : TS :=
  (tSeq (tAsg tDNewK (gName 1))
  (tSeq (tFor (iList K (tVar 0)) (gTup K 2 (gCons (gName 2) (gCons (gName 3) gNil))) (tSeq (tDrop (tBM K "list" rAppend (tDSetd (tVar 1) (tVar 2) (tLst tNil)) (tCons (tVar 3) tNil)))
  (tDrop (tBM K "list" rAppend (tDSetd (tVar 1) (tVar 3) (tLst tNil)) (tCons (tVar 2) tNil)))))
  (tRet (tVar 1))))
def N_fields_for : List Str := ["fields", "ends", "found", "at", "point"]
def t_fields_for (K : PySem.W.Frag) (C : Addr) : TS :=
  (tSeq (tAsg (tLst tNil) (gName 2))
  (tSeq (tFor (iRng1 (tCons (tCB (xLen K) (tCons (tVar 0) tNil)) tNil)) (gName 3) (tIfS (tTest (tOp (rEqD K) (tLc (iList K (tVar 1)) (gName 4) (tTest (tOp (rIn K true) (tVar 4) (tOp (rIx K) (tVar 0) (tVar 3)))) (tVar 4) [4]) (tLst tNil))) (tDrop (tBM K "list" rAppend (tVar 2) (tCons (tVar 3) tNil))) tNext))
  (tRet (tVar 2))))
def N_parted : List Str := ["field", "way", "at", "row", "to", "inner"]
def t_parted (K : PySem.W.Frag) (C : Addr) : TS :=
  (tSeq (tAsg (tBM K "list" (rIndex K) (tVar 0) (tCons (tOp (rIx K) (tVar 1) (tC (.int 0))) tNil)) (gName 2))
  (tSeq (tAsg (tOp rCat (tSl (rSlL K) (tVar 0) (tPart (tVar 2)) tNoPart) (tSl (rSlL K) (tVar 0) tNoPart (tPart (tVar 2)))) (gName 3))
  (tSeq (tAsg (tBM K "list" (rIndex K) (tVar 3) (tCons (tOp (rIx K) (tVar 1) (tUn (rU fun i => .int (-i)) (tC (.int 1)))) tNil)) (gName 4))
  (tSeq (tAsg (tSl (rSlL K) (tVar 1) (tPart (tC (.int 1))) (tPart (tUn (rU fun i => .int (-i)) (tC (.int 1))))) (gName 5))
  (tRet (tLst (tCons (tOp rCat (tSl (rSlL K) (tVar 3) tNoPart (tPart (tOp (rI0 fun i j => .int (i + j)) (tVar 4) (tC (.int 1))))) (FV.tLstRev K (tVar 5))) (tCons (tOp rCat (tOp rCat (tSl (rSlL K) (tVar 3) (tPart (tVar 4)) tNoPart) (tLst (tCons (tOp (rIx K) (tVar 3) (tC (.int 0))) tNil))) (tVar 5)) tNil))))))))
def N_chosen : List Str := ["fields", "left", "best", "ends", "inner", "places"]
def t_chosen (K : PySem.W.Frag) (C : Addr) : TS :=
  (tSeq (tAsg (tC .non) (gName 2))
  (tSeq (tFor (iList K (tVar 1)) (gTup K 2 (gCons (gName 3) (gCons (gName 4) gNil))) (tSeq (tAsg (tCall (sp_fields_for K C) [] E0 (tCons (tVar 0) (tCons (tVar 3) tNil))) (gName 5))
  (tIfS (tOr (tTest (tOp xIsN (tVar 2) (tC .non))) (tTest (tOp (rI0 fun i j => .bl (decide (i < j))) (tCB (xLen K) (tCons (tVar 5) tNil)) (tCB (xLen K) (tCons (tOp (rIx K) (tVar 2) (tC (.int 2))) tNil))))) (tAsg (tTup (tCons (tVar 3) (tCons (tVar 4) (tCons (tVar 5) tNil)))) (gName 2)) tNext)))
  (tRet (tVar 2))))
def N_way_in : List Str := ["near", "start", "goals", "inner", "ahead", "waiting", "at", "here", "other", "way"]
def t_way_in (K : PySem.W.Frag) (C : Addr) : TS :=
  (tSeq (tAsg tDNewK (gName 4))
  (tSeq (tAsg (tLst (tCons (tVar 1) tNil)) (gName 5))
  (tSeq (tAsg (tC (.int 0)) (gName 6))
  (tSeq (tWhile (tTest (tOp (rI0 fun i j => .bl (decide (i < j))) (tVar 6) (tCB (xLen K) (tCons (tVar 5) tNil)))) (tSeq (tAsg (tOp (rIx K) (tVar 5) (tVar 6)) (gName 7))
  (tSeq (tAsg (tOp (rI0 fun i j => .int (i + j)) (tVar 6) (tC (.int 1))) (gName 6))
  (tFor (iList K (tDGet (tVar 0) (tVar 7))) (gName 8) (tSeq (tIfS (tAnd (tTest (tOp (rIn K false) (tVar 8) (tVar 2))) (tOr (tTest (tOp rNe (tVar 7) (tVar 1))) (tTest (tOp (rEqD K) (tVar 3) (tLst tNil))))) (tSeq (tAsg (tLst (tCons (tVar 8) (tCons (tVar 7) tNil))) (gName 9))
  (tSeq (tWhile (tTest (tOp rNe (tOp (rIx K) (tVar 9) (tUn (rU fun i => .int (-i)) (tC (.int 1)))) (tVar 1))) (tDrop (tBM K "list" rAppend (tVar 9) (tCons (tDGet (tVar 4) (tOp (rIx K) (tVar 9) (tUn (rU fun i => .int (-i)) (tC (.int 1))))) tNil))))
  (tSeq (tDrop (tBM0 K "list" rReverse (tVar 9)))
  (tRet (tVar 9))))) tNext)
  (tIfS (tAnd (tTest (tOp (rIn K false) (tVar 8) (tVar 3))) (tB (tDNotIn (tVar 8) (tVar 4)))) (tSeq (sDPut (tVar 4) (tVar 8) (tVar 7))
  (tDrop (tBM K "list" rAppend (tVar 5) (tCons (tVar 8) tNil)))) tNext))))))
  (tRet (tLst tNil))))))
def N_first_ring : List Str := ["near", "tie", "inner", "point"]
def t_first_ring (K : PySem.W.Frag) (C : Addr) : TS :=
  (tSeq (tLock (tAsg (tLc (iKeys (tVar 0)) (gName 3) (tTest (tOp (rIn K true) (tVar 3) (tVar 1))) (tVar 3) [3]) (gName 2)))
  (tRet (tCall (sp_way_in K C) [] E0 (tCons (tVar 0) (tCons (tOp (rIx K) (tVar 1) (tC (.int 0))) (tCons (tLst (tCons (tOp (rIx K) (tVar 1) (tC (.int 1))) tNil)) (tCons (tVar 2) tNil)))))))
def uP2 (a b : Nat) : PyData → List Sd → List Sd
  | .tuple [x, y] => fun Δ => (Δ.set a (.d x)).set b (.d y)
  | _ => id
section
variable {K : PySem.W.Frag} {C : Addr} {vs : List V} {H : Hp} {Q : VK} {E : XK}
theorem pure_near_of (h : sp_near_of K C vs H Q E) : t_near_of K C { nx := fun _ H' => Q .non H', rt := Q } (L2.start N_near_of vs) H := by
  refine enterN h fun F ss c hf ha hR hq => ?_
  obtain ⟨B, rfl, hB, hl, rfl⟩ := hR
  refine ⟨_, ha, ?_⟩
  show WP ⟨F, H, []⟩ [.d (dTies B), .no, .no, .no] [] (t_near_of K C) _
  refine q_new evN_dnewK fun d hd => ?_
  have hd : H d = none := hd
  have hbl : ∀ T : List Tie, (bothT T).length = 2 * T.length := fun T => by
    induction T with
    | nil => rfl
    | cons t T ih => show ((t.1, t.2) :: (t.2, t.1) :: bothT T).length = _; rw [List.length_cons, List.length_cons, ih, List.length_cons]; omega
  have hkl : ∀ D : List (Nat × Nat), (keysD D).length ≤ D.length := by
    refine rev_ind (Nat.le_refl _) fun D d ih => ?_
    rw [keysD_snoc]; unfold addK
    split
    · rw [List.length_append]; omega
    · rw [List.length_append, List.length_append]; simp; omega
  have hrl : ∀ (D : List (Nat × Nat)), ∀ r ∈ rowsD D, r.length ≤ D.length := fun D r hr => by
    obtain ⟨k, _, rfl⟩ := List.mem_map.mp hr
    unfold rowD; rw [List.length_map]; exact List.length_filter_le _ _
  have hrlen : ∀ D : List (Nat × Nat), (rowsD D).length = (keysD D).length := fun D => List.length_map _
  refine q_for (α := List Addr) (js := [2, 3]) (Src.list (ev_var rfl rfl)) (uP2 2 3) (fun t ht => by
      obtain ⟨t, _, rfl⟩ := List.mem_map.mp ht
      exact tg_tup2) (fun i ps => ps.length = (keysD (bothT (B.take i))).length ∧ ∀ p ∈ ps, H p = none) (fun _ _ => [.d (dTies B), .v (.ref d), .any, .any]) (fun i ps => nearC d (keysD (bothT (B.take i))) ps (rowsD (bothT (B.take i)))) (fun G => nx_inv [] ⟨rfl, fun p hp => by cases hp⟩) ?_ ?_
  · rintro G i ps dt hdt ⟨i1, i2⟩
    rw [List.getElem?_map] at hdt
    obtain ⟨t, ht, rfl⟩ : ∃ t, B[i]? = some t ∧ dTie t = dt := by
      cases q : B[i]? with
      | none => rw [q] at hdt; cases hdt
      | some t => rw [q] at hdt; exact ⟨t, rfl, Option.some.inj hdt⟩
    have hil := List.length_take_le' i B
    have hbl' := hbl (B.take i)
    rw [take_succ ht, bothT_snoc]
    generalize bothT (B.take i) = D0 at i1 hbl'
    have hz0 := hkl D0
    have hz1 := hkl (D0 ++ [(t.1, t.2)])
    have hl0 := hrlen D0
    have hl1 := hrlen (D0 ++ [(t.1, t.2)])
    have hD1 : (D0 ++ [(t.1, t.2)]).length = D0.length + 1 := by simp
    have second : ∀ ps : List Addr, ps.length = (keysD (D0 ++ [(t.1, t.2)])).length → (∀ p ∈ ps, H p = none) → WP ⟨F, H, G⟩ [.d (dTies B), .v (.ref d), sN t.1, sN t.2] (nearC d (keysD (D0 ++ [(t.1, t.2)])) ps (rowsD (D0 ++ [(t.1, t.2)]))) (tDrop (tBM K "list" rAppend (tDSetd (tVar 1) (tVar 3) (tLst tNil)) (tCons (tVar 2) tNil))) { nx := InvS ⟨F, H, G⟩ (fun ps => ps.length = (keysD (D0 ++ [(t.1, t.2)] ++ [(t.2, t.1)])).length ∧ ∀ p ∈ ps, H p = none) (fun _ => [.d (dTies B), .v (.ref d), .any, .any]) (fun ps => nearC d (keysD (D0 ++ [(t.1, t.2)] ++ [(t.2, t.1)])) ps (rowsD (D0 ++ [(t.1, t.2)] ++ [(t.2, t.1)]))), rt := Q } := fun ps j1 j2 => by
      refine s_setApp j1.symm (by omega) (by omega) (fun r hr => by have := hrl _ r hr; omega) (ev_var rfl rfl) (ev_var rfl rfl) (ev_var rfl rfl) (fun c => ?_) fun c p hp => ?_
      · obtain ⟨e1, e2⟩ := rowsD_in (b := t.1) c
        exact nx_inv ps ⟨by rw [e1]; exact j1, j2⟩ (hC := by rw [e1, e2])
      · obtain ⟨e1, e2⟩ := rowsD_out (b := t.1) c
        refine nx_inv (ps ++ [p]) ⟨by rw [e1, List.length_append, List.length_append, j1]; rfl, fun q hq' => ?_⟩ (hC := by rw [e1, e2])
        rcases List.mem_append.mp hq' with h | h
        · exact j2 q h
        · rw [List.mem_singleton.mp h]; exact hp
    refine wp_seq (s_setApp i1.symm (by omega) (by omega) (fun r hr => by have := hrl _ r hr; omega) (ev_var rfl rfl) (ev_var rfl rfl) (ev_var rfl rfl) (fun c => ?_) fun c p hp => ?_)
    · obtain ⟨e1, e2⟩ := rowsD_in (b := t.2) c
      have := second ps (by rw [e1]; exact i1) i2
      rw [e1, e2] at this
      exact this
    · obtain ⟨e1, e2⟩ := rowsD_out (b := t.2) c
      have := second (ps ++ [p]) (by rw [e1, List.length_append, List.length_append, i1]; rfl) (fun q hq' => by
        rcases List.mem_append.mp hq' with h | h
        · exact i2 q h
        · rw [List.mem_singleton.mp h]; exact hp)
      rw [e1, e2] at this
      exact this
  · rintro ps ⟨i1, i2⟩
    rw [List.length_map, List.take_length] at i1 ⊢
    refine fun σ Hh ⟨F1, hs⟩ => ?_
    have hl1 := hrlen (bothT B)
    have hp : (nearC d (keysD (bothT B)) ps (rowsD (bothT B))).Perm (inC ps (rowsD (bothT B)) ++ [(d, .dk (kvR (keysD (bothT B)) ps))]) := List.perm_append_comm (l₁ := [(d, Cd.dk (kvR (keysD (bothT B)) ps))]) (l₂ := inC ps (rowsD (bothT B)))
    obtain ⟨F2, e2, hs2, hrow⟩ := frzs2 (cs := ps.zip (rowsD (bothT B))) (FD.St.perm hs hp) (fun x hx => i2 _ (List.of_mem_zip hx).1)
    obtain ⟨fd, o, ho, vs', rfl, hkv⟩ := hs2.cell (k := 0) rfl
    have hkv2 := kv_rows hkv (by omega) (by omega) hrow
    have edict : ((keysD (bothT B)).zip (rowsD (bothT B))).map (fun x => ((.inl (x.1 : Int) : Key), Sd.d (dNs x.2))) = dictN (nearOf 16 B) (keysT B) := by
      unfold dictN keysT rowsD
      generalize keysD (bothT B) = ks
      induction ks with
      | nil => rfl
      | cons k ks ih =>
        rw [List.map_cons, List.zip_cons_cons, List.map_cons, ih, rowD_both hB]; rfl
    rw [edict] at hkv2
    have hsl := hs2.sl
    obtain ⟨o1, ho1, w1⟩ := hsl.get (i := 1) rfl
    obtain ⟨v1, rfl, w1⟩ := w1.some rfl
    cases w1
    exact ⟨_, ho1, hq d _ F2 Hh (hs2.ext fun c hc => by rw [List.mem_singleton.mp hc]; exact hd) hd fd ho ⟨vs', rfl, hkv2⟩⟩
theorem fld_at {fields : List (List Nat)} {xs : List V} {F : Hp} (r : RepA F xs (fields.map dNs)) : SlA F xs (fields.map fun f => Sd.d (dNs f)) := by
  have := r.sl
  rw [List.map_map] at this
  exact this
theorem pure_fields_for (h : sp_fields_for K C vs H Q E) : t_fields_for K C { nx := fun _ H' => Q .non H', rt := Q } (L2.start N_fields_for vs) H := by
  refine enterD h fun F ss s hf ha hR hq => ?_
  obtain ⟨fields, fv, ends, rfl, ⟨fl, xs, rfl, hH, hrep⟩, ⟨hfl, hfe⟩, hel, rfl⟩ := hR
  refine ⟨_, ha, ?_⟩
  show WP ⟨F, H, []⟩ [.v (.ref fl), .d (dNs ends), .no, .no, .no] [] (t_fields_for K C) _
  refine q_new evN_lst0 fun l hl => ?_
  have hl : H l = none := hl
  have hne : fl ≠ l := fun e => by rw [e, hl] at hH; cases hH
  have asl : ∀ {B' : Base} {Δ' C'}, Ex F B'.F → B'.H fl = some (.lst xs) → (∀ x ∈ C'.map (·.1), x = l) → AsL B' Δ' C' (.v (.ref fl)) (fields.map fun f => Sd.d (dNs f)) := fun {B' Δ' C'} e1 e2 e3 => asL_h e2 (fun z => hne (e3 _ z)) ((fld_at hrep).mono e1)
  refine q_for1 (α := Unit) dN (Src.rN (n := fields.length) (ea_cons (ev_eq (ev_cb (ea_cons (ev_var rfl rfl) ea_nil) (rc_lenA' (asl (Ex.refl F) hH (by simp)))) (by rw [List.length_map])) ea_nil)) (fun _ _ => True) (fun _ _ => [.v (.ref fl), .d (dNs ends), .v (.ref l), .any, .no]) (fun i _ => [(l, .lst ((((List.range fields.length).take i).filter fun k => ends.all fun e => decide (e ∈ fields.getD k [])).map sN))]) (fun G => nx_inv () trivial) ?_ ?_
  · intro G i _ k hk _
    have hkl : k < fields.length := List.mem_range.mp (List.mem_of_getElem? hk)
    have hget : (fields.map fun f => Sd.d (dNs f))[k]? = some (.d (dNs (fields.getD k []))) := by
      rw [List.getElem?_map, List.getD_eq_getElem?_getD, List.getElem?_eq_getElem hkl]; rfl
    have hgl : (((List.range fields.length).take i).filter fun k => ends.all fun e => decide (e ∈ fields.getD k [])).length ≤ 100 := by
      have h1 := List.length_filter_le (fun k => ends.all fun e => decide (e ∈ fields.getD k [])) ((List.range fields.length).take i)
      have h2 := List.length_take_le' i (List.range fields.length)
      rw [List.length_range] at h2; omega
    have hmi : ∀ (e : Nat) (f : List Nat), (decide ((e : Int) ∈ f.map fun n : Nat => (n : Int))) = decide (e ∈ f) := fun e f => any_nats e f
    refine s_when (b := ends.all fun e => decide (e ∈ fields.getD k [])) (evT_eq (et_test (ev_op (ev_of' ((ends.filter fun e => !decide (e ∈ fields.getD k [])).map dN) (evN_lc1 dN (fun e => !decide (e ∈ fields.getD k [])) (fun e => .d (dN e)) (Src.list (ev_var rfl rfl)) (fun B' e le he => evT_eq (et_test (ev_op (ev_var rfl rfl) (ev_eq (ev_op (ev_var rfl rfl) (ev_var rfl rfl) (rv_xA (asl ?_ ?_ (by simp)) (atI_nat hget))) (show Sd.d (dNs (fields.getD k [])) = Sd.d (.list (((fields.getD k []).map fun n : Nat => (n : Int)).map .int)) by rw [List.map_map]; rfl)) rv_niI)) (by rw [hmi])) (fun B' e le he _ => ev_var rfl rfl) (by omega)) (by rw [List.map_map]; rfl)) ev_lst0 (rv_eqG (f := dNs) (a := ends.filter fun e => !decide (e ∈ fields.getD k [])) (b := []) faith_ns (sh_ns _) (sh_ns [])))) ?_) (fun c => ?_) (fun c => ?_)
    · exact le.f
    · exact le.h fl _ (by simpa using hne) hH
    · rw [Bool.eq_iff_iff, decide_eq_true_eq, List.filter_eq_nil_iff, List.all_eq_true]
      simp
    · refine s_app (k := 0) rfl (ev_var rfl rfl) (ev_var rfl rfl) (nx_inv () trivial (hC := ?_)) (by rw [List.length_map]; omega)
      rw [take_succ hk, List.filter_append, List.map_append]
      simp only [List.filter_cons, c, if_true, List.filter_nil]; rfl
    · refine nx_inv () trivial (hC := ?_)
      rw [take_succ hk, List.filter_append]
      simp only [List.filter_cons, c, List.filter_nil]; simp
  · intro _ _
    rw [List.take_length]
    exact s_retC (ds := (fits fields ends).map dN) (k := 0) (by unfold fits; rw [List.map_map]; rfl) (ev_var rfl rfl) hq (by simpa using hl)
theorem getN {l : List Nat} {k : Nat} (h : k < l.length) : l[k]? = some (l.getD k 0) := by
  rw [List.getD_eq_getElem?_getD, List.getElem?_eq_getElem h]; rfl
theorem headD_get (l : List Nat) : l.headD 0 = l.getD 0 0 := by cases l <;> rfl
theorem lastD_get {l : List Nat} (h : l ≠ []) : l.getLastD 0 = l.getD (l.length - 1) 0 := by
  obtain ⟨l', x, rfl⟩ := last_split h
  rw [lastD_snoc, List.getD_eq_getElem?_getD, List.length_append, show l'.length + [x].length - 1 = l'.length by simp, List.getElem?_append_right (Nat.le_refl _), Nat.sub_self]; rfl
theorem pure_parted (h : sp_parted K C vs H Q E) : t_parted K C { nx := fun _ H' => Q .non H', rt := Q } (L2.start N_parted vs) H := by
  refine enterD h fun F ss s hf ha hR hq => ?_
  obtain ⟨f, way, rfl, hfl, hwl, hw2, h0, ht, rfl⟩ := hR
  refine ⟨_, ha, ?_⟩
  show WP ⟨F, H, []⟩ [.d (dNs f), .d (dNs way), .no, .no, .no, .no] [] (t_parted K C) _
  have hrl : (rotTo f (way.headD 0)).length = f.length := by
    unfold rotTo
    rw [List.length_append, List.length_drop, List.length_take]
    have := List.idxOf_lt_length_of_mem h0; omega
  have hrm : way.getLastD 0 ∈ rotTo f (way.headD 0) := by
    unfold rotTo
    rw [← List.take_append_drop (f.idxOf (way.headD 0)) f] at ht
    rw [List.mem_append]
    exact (List.mem_append.mp ht).symm
  refine q_asg (s := sN (f.idxOf (way.headD 0))) (FR.ev_index (ev_var rfl rfl) (atF (f := dN) (k := 0) (ev_var rfl rfl) ev_int (by rw [headD_get]; exact getN (by omega))) h0) ?_
  refine q_asg (s := .d (dNs (rotTo f (way.headD 0)))) (catF (f := dN) (cutR (f := dN) (ev_var rfl rfl) (ev_var rfl rfl)) (cutL (f := dN) (ev_var rfl rfl) (ev_var rfl rfl)) (by simp; omega)) ?_
  unfold partedL at hq
  generalize rotTo f (way.headD 0) = rw0 at *
  refine q_asg (s := sN (rw0.idxOf (way.getLastD 0))) (FR.ev_index (ev_var rfl rfl) (lastF (f := dN) (ev_var rfl rfl) (by rw [lastD_get (by intro z; subst z; simp at hw2)]; exact getN (by omega))) hrm) ?_
  have hmid : (mid way).length ≤ 100 := by unfold mid; rw [List.length_take]; omega
  refine q_asg (s := .d (dNs (mid way))) (ev_eq (ev_sl (ev_var rfl rfl) (eo_some ev_int) (eo_some (ev_un ev_int ru_i))) (by rw [show ((-(1 : Int))) = -1 from rfl, cutD_map, cut_mid]; rfl)) ?_
  have hpos : 0 < rw0.length := List.length_pos_of_mem hrm
  refine s_ret (s := .d (dNear [rw0.take (rw0.idxOf (way.getLastD 0) + 1) ++ (mid way).reverse, rw0.drop (rw0.idxOf (way.getLastD 0)) ++ [rw0.getD 0 0] ++ mid way])) (ev_lst (ds := [dNs (rw0.take (rw0.idxOf (way.getLastD 0) + 1) ++ (mid way).reverse), dNs (rw0.drop (rw0.idxOf (way.getLastD 0)) ++ [rw0.getD 0 0] ++ mid way)]) (ea_cons (catF (f := dN) (cutL (f := dN) (k := rw0.idxOf (way.getLastD 0) + 1) (ev_var rfl rfl) (ev_op (ev_var rfl rfl) ev_int rv_ii)) (revF (f := dN) (ev_var rfl rfl)) (by simp; omega)) (ea_cons (catF (f := dN) (catF (f := dN) (cutR (f := dN) (ev_var rfl rfl) (ev_var rfl rfl)) (oneF (f := dN) (atF (f := dN) (k := 0) (ev_var rfl rfl) ev_int (getN hpos))) (by simp; omega)) (ev_var rfl rfl) (by simp; omega)) ea_nil)) (by show 2 ≤ 100000; decide)) hq
def bestD (fields : List (List Nat)) : Option (List Nat × List Nat) → PyData
  | none => .none
  | some p => .tuple [dNs p.1, dNs p.2, dNs (fits fields p.1)]
theorem fits_len (fields : List (List Nat)) (ends : List Nat) : (fits fields ends).length ≤ fields.length := by
  unfold fits
  have := List.length_filter_le (fun k => ends.all fun e => decide (e ∈ fields.getD k [])) (List.range fields.length)
  rw [List.length_range] at this; exact this
theorem pure_chosen (h : sp_chosen K C vs H Q E) : t_chosen K C { nx := fun _ H' => Q .non H', rt := Q } (L2.start N_chosen vs) H := by
  refine enterD h fun F ss s hf ha hR hq => ?_
  obtain ⟨fields, fv, left, rfl, ⟨fl, xs, rfl, hH, hrep⟩, hok, hne, hll, hel, rfl⟩ := hR
  refine ⟨_, ha, ?_⟩
  show WP ⟨F, H, []⟩ [.v (.ref fl), .d (dPcs left), .no, .no, .no, .no] [] (t_chosen K C) _
  refine q_asg (s := .d .none) ev_non ?_
  refine q_for (α := Option (List Nat × List Nat)) (js := [3, 4]) (Src.list (ev_var rfl rfl)) (uP2 3 4) (fun t ht => by
      obtain ⟨t, _, rfl⟩ := List.mem_map.mp ht
      exact tg_tup2) (fun i o => (i = 0 ∧ o = none) ∨ ∃ p, o = some p ∧ p ∈ left.take i ∧ ∀ q ∈ left.take i, (fits fields p.1).length ≤ (fits fields q.1).length) (fun _ o => [.v (.ref fl), .d (dPcs left), .d (bestD fields o), .any, .any, .any]) (fun _ _ => []) (fun G => nx_inv none (.inl ⟨rfl, rfl⟩)) ?_ ?_
  · rintro G i o dt hdt hinv
    rw [List.getElem?_map] at hdt
    obtain ⟨t, ht, rfl⟩ : ∃ t, left[i]? = some t ∧ dPc t = dt := by
      cases q : left[i]? with
      | none => rw [q] at hdt; cases hdt
      | some t => rw [q] at hdt; exact ⟨t, rfl, Option.some.inj hdt⟩
    have htl := hel t (List.mem_of_getElem? ht)
    show WP ⟨F, H, G⟩ [.v (.ref fl), .d (dPcs left), .d (bestD fields o), .d (dNs t.1), .d (dNs t.2), .any] [] _ _
    refine q_asg (s := .d (dNs (fits fields t.1))) (ev_call (ea_cons (ev_var rfl rfl) (ea_cons (ev_var rfl rfl) ea_nil)) fun σ' H' F' hs' => ⟨fields, .v (.ref fl), t.1, rfl, ⟨fl, xs, rfl, hs'.hh _ _ (by simp) hH, RepA.mono hs'.ff _ _ hrep⟩, hok, htl, rfl⟩) ?_
    have hnew : (o = none ∨ ∃ p, o = some p ∧ (fits fields t.1).length < (fits fields p.1).length) → (((i + 1) = 0 ∧ some t = none) ∨ ∃ p, some t = some p ∧ p ∈ left.take (i + 1) ∧ ∀ q ∈ left.take (i + 1), (fits fields p.1).length ≤ (fits fields q.1).length) := fun h => by
      refine .inr ⟨t, rfl, by rw [take_succ ht]; simp, fun q hq' => ?_⟩
      rw [take_succ ht] at hq'
      rcases List.mem_append.mp hq' with h1 | h1
      · rcases hinv with ⟨rfl, _⟩ | ⟨p, rfl, hp, hmin⟩
        · simp at h1
        · rcases h with h | ⟨p', e, h⟩
          · cases h
          · cases e
            have := hmin q h1; omega
      · rw [List.mem_singleton.mp h1]; exact Nat.le_refl _
    cases o with
    | none =>
      refine s_if (b := true) (et_or (a := true) (b := true) (et_test (ev_op (ev_var rfl rfl) ev_non rv_isN)) fun z => by cases z) (fun _ => ?_) (fun z => by cases z)
      exact s_asg (s := .d (bestD fields (some t))) (ev_tup (ds := [dNs t.1, dNs t.2, dNs (fits fields t.1)]) (ea_cons (ev_var rfl rfl) (ea_cons (ev_var rfl rfl) (ea_cons (ev_var rfl rfl) ea_nil))) (by show 3 ≤ 100000; decide)) (nx_inv (some t) (hnew (.inl rfl)))
    | some p =>
      refine s_when (b := decide ((fits fields t.1).length < (fits fields p.1).length)) (evT_eq (et_or (a := false) (b := decide ((fits fields t.1).length < (fits fields p.1).length)) (et_test (ev_op (ev_var rfl rfl) ev_non rv_isN)) fun _ => evT_eq (et_test (ev_op (ev_eq (ev_cb (ea_cons (ev_var rfl rfl) ea_nil) rc_lenL) (show _ = sN (fits fields t.1).length by rw [List.length_map])) (ev_eq (ev_cb (ea_cons (ev_op (ev_var rfl rfl) ev_int (rv_xT (d := dNs (fits fields p.1)) (atI_nat (j := 2) rfl))) ea_nil) rc_lenL) (show _ = sN (fits fields p.1).length by rw [List.length_map])) rv_ib)) (by rw [decide_eq_decide]; omega)) rfl) (fun c => ?_) (fun c => ?_)
      · exact s_asg (s := .d (bestD fields (some t))) (ev_tup (ds := [dNs t.1, dNs t.2, dNs (fits fields t.1)]) (ea_cons (ev_var rfl rfl) (ea_cons (ev_var rfl rfl) (ea_cons (ev_var rfl rfl) ea_nil))) (by show 3 ≤ 100000; decide)) (nx_inv (some t) (hnew (.inr ⟨p, rfl, of_decide_eq_true c⟩)))
      · have c := of_decide_eq_false c
        refine nx_inv (some p) (.inr ⟨p, rfl, ?_, fun q hq' => ?_⟩)
        · rcases hinv with ⟨_, h⟩ | ⟨p', e, hp, _⟩
          · cases h
          · cases e; rw [take_succ ht]; exact List.mem_append_left _ hp
        · rcases hinv with ⟨_, h⟩ | ⟨p', e, hp, hmin⟩
          · cases h
          · cases e
            rw [take_succ ht] at hq'
            rcases List.mem_append.mp hq' with h1 | h1
            · exact hmin q h1
            · rw [List.mem_singleton.mp h1]; omega
  · rintro o hinv
    rw [List.length_map, List.take_length] at hinv
    rcases hinv with ⟨h0, _⟩ | ⟨p, rfl, hp, hmin⟩
    · exact absurd (List.eq_nil_of_length_eq_zero h0) hne
    · exact s_ret (s := .p (BestM fields left)) (ev_dm (ev_var rfl rfl) ⟨p, hp, rfl, hmin⟩) hq
/-! ### way_in: what's been come to, and from where -/
structure Ah (near : List (List Nat)) (start : Nat) (inner : List Nat) (ps : List (Nat × Nat)) : Prop where
  nd : (start :: ps.map (·.1)).Nodup
  from_ : ∀ (j x y : Nat), ps[j]? = some (x, y) → x ∈ inner ∧ x ∈ near.getD y [] ∧ ∃ l, l ≤ j ∧ (start :: ps.map (·.1))[l]? = some y
theorem Ah.add {near : List (List Nat)} {start : Nat} {inner : List Nat} {ps : List (Nat × Nat)} (h : Ah near start inner ps) {o u l : Nat} (ho : o ∈ inner) (hn : o ∈ near.getD u []) (hu : (start :: ps.map (·.1))[l]? = some u) (hs : o ≠ start) (hnew : o ∉ ps.map (·.1)) : Ah near start inner (ps ++ [(o, u)]) := by
  have hl := (List.getElem?_eq_some_iff.mp hu).1
  rw [List.length_cons, List.length_map] at hl
  refine ⟨?_, fun j x y hj => ?_⟩
  · have e : start :: (ps ++ [(o, u)]).map (·.1) = (start :: ps.map (·.1)) ++ [o] := by rw [List.map_append]; rfl
    rw [e, List.nodup_append]
    refine ⟨h.nd, by simp, fun a ha b hb e => ?_⟩
    rw [List.mem_singleton.mp hb] at e
    subst e
    rcases List.mem_cons.mp ha with e | ha
    · exact hs e
    · exact hnew ha
  · have up : ∀ {m z}, (start :: ps.map (·.1))[m]? = some z → (start :: (ps ++ [(o, u)]).map (·.1))[m]? = some z := fun {m z} hz => by
      have e : start :: (ps ++ [(o, u)]).map (·.1) = (start :: ps.map (·.1)) ++ [o] := by rw [List.map_append]; rfl
      rw [e, List.getElem?_append_left (List.getElem?_eq_some_iff.mp hz).1]; exact hz
    by_cases c : j < ps.length
    · rw [List.getElem?_append_left c] at hj
      obtain ⟨h1, h2, m, h3, h4⟩ := h.from_ j x y hj
      exact ⟨h1, h2, m, h3, up h4⟩
    · rw [List.getElem?_append_right (by omega)] at hj
      have hj0 : j - ps.length = 0 := by
        cases e : j - ps.length with
        | zero => rfl
        | succ n => rw [e] at hj; cases hj
      rw [hj0] at hj
      have hj : (o, u) = (x, y) := Option.some.inj hj
      rw [Prod.mk.injEq] at hj
      obtain ⟨rfl, rfl⟩ := hj
      exact ⟨ho, hn, l, by omega, up hu⟩
/-- what stands behind the goal, back towards the start -/
structure Back (near : List (List Nat)) (start : Nat) (inner : List Nat) (ps : List (Nat × Nat)) (here : Nat) (c : List Nat) (l : Nat) : Prop where
  head : c.headD 0 = here ∧ c ≠ []
  cur : (start :: ps.map (·.1))[l]? = some (c.getLastD 0)
  more : ∀ x ∈ c, ∃ m, l ≤ m ∧ (start :: ps.map (·.1))[m]? = some x
  nd : c.Nodup
  way : Way near c.reverse
theorem Back.step {near : List (List Nat)} {start : Nat} {inner : List Nat} {ps : List (Nat × Nat)} {here : Nat} {c : List Nat} {l : Nat} (ha : Ah near start inner ps) (h : Back near start inner ps here c l) (hne : c.getLastD 0 ≠ start) :
    ∃ y l', l' < l ∧ (c.getLastD 0, y) ∈ ps ∧ Back near start inner ps here (c ++ [y]) l' := by
  obtain ⟨⟨h1, h0⟩, h2, h3, h4, h5⟩ := h
  obtain ⟨j, rfl⟩ : ∃ j, l = j + 1 := by
    cases l with
    | zero => exact absurd (Option.some.inj h2).symm hne
    | succ j => exact ⟨j, rfl⟩
  rw [List.getElem?_cons_succ, List.getElem?_map] at h2
  obtain ⟨⟨x, y⟩, hp, ex⟩ : ∃ p, ps[j]? = some p ∧ p.1 = c.getLastD 0 := by
    cases q : ps[j]? with
    | none => rw [q] at h2; cases h2
    | some p => rw [q] at h2; exact ⟨p, rfl, Option.some.inj h2⟩
  dsimp only at ex
  obtain ⟨a1, a2, l', a3, a4⟩ := ha.from_ j x y hp
  refine ⟨y, l', by omega, by rw [← ex]; exact List.mem_of_getElem? hp, ⟨?_, by simp⟩, by rw [lastD_snoc]; exact a4, fun z hz => ?_, ?_, ?_⟩
  · cases c with
    | nil => exact absurd rfl h0
    | cons a c => exact h1
  · rcases List.mem_append.mp hz with hz | hz
    · obtain ⟨m, hm, e⟩ := h3 z hz
      exact ⟨m, by omega, e⟩
    · rw [List.mem_singleton.mp hz]; exact ⟨l', Nat.le_refl _, a4⟩
  · rw [List.nodup_append]
    refine ⟨h4, by simp, fun a ha' b hb e => ?_⟩
    rw [List.mem_singleton.mp hb] at e
    subst e
    obtain ⟨m, hm, e⟩ := h3 a ha'
    obtain ⟨q1, q2⟩ := List.getElem?_eq_some_iff.mp e
    obtain ⟨q3, q4⟩ := List.getElem?_eq_some_iff.mp a4
    have := (List.getElem_inj (h₀ := q1) (h₁ := q3) ha.nd).mp (q2.trans q4.symm)
    omega
  · rw [List.reverse_append]
    show Way near (y :: c.reverse)
    obtain ⟨c', z, e⟩ := last_split h0
    subst e
    rw [lastD_snoc] at ex
    subst ex
    rw [List.reverse_append] at h5 ⊢
    exact Way.cons.mpr ⟨a2, h5⟩
/-- all the steps of what is done -/
def Done (near : List (List Nat)) (start : Nat) (goals inner : List Nat) (ps : List (Nat × Nat)) (u : Nat) (os : List Nat) : Prop := ∀ o ∈ os, (o ∈ goals → u = start ∧ inner ≠ []) ∧ (o ∈ inner → o ∈ ps.map (·.1))
theorem Done.mono {near : List (List Nat)} {start : Nat} {goals inner : List Nat} {ps : List (Nat × Nat)} {u : Nat} {os : List Nat} (h : Done near start goals inner ps u os) (t : List (Nat × Nat)) : Done near start goals inner (ps ++ t) u os := fun o ho => ⟨(h o ho).1, fun h1 => by rw [List.map_append]; exact List.mem_append_left _ ((h o ho).2 h1)⟩
theorem no_way {near : List (List Nat)} {start : Nat} {goals inner : List Nat} {ps : List (Nat × Nat)} (hs : start ∉ inner) (hd : ∀ u ∈ start :: ps.map (·.1), Done near start goals inner ps u (near.getD u [])) : ¬ ∃ w, IsWay near start goals inner w := by
  rintro ⟨_, e, W, he, rfl, _, hW, hw, hne⟩
  have go : ∀ (l : List Nat) (x : Nat), x ∈ start :: ps.map (·.1) → Way near (x :: l) → (∀ y ∈ l, y ∈ inner) → (x :: l).getLastD 0 ∈ start :: ps.map (·.1) := by
    intro l
    induction l with
    | nil => intro x hx _ _; exact hx
    | cons y l ih =>
      intro x hx hw hi
      obtain ⟨h1, h2⟩ := Way.cons.mp hw
      have hy := (hd x hx y h1).2 (hi y List.mem_cons_self)
      exact ih y (List.mem_cons_of_mem _ hy) h2 fun z hz => hi z (List.mem_cons_of_mem _ hz)
  obtain ⟨l', u, eu⟩ := last_split (t := start :: W) (by simp)
  have hw1 : Way near (start :: W ++ [e]) := hw
  have e5 : start :: W ++ [e] = l' ++ u :: [e] := by rw [eu]; simp
  rw [e5] at hw1
  obtain ⟨hwa, hwb⟩ := Way.app.mp hw1
  rw [← eu] at hwa
  have hu := go W start List.mem_cons_self hwa hW
  rw [eu, lastD_snoc] at hu
  obtain ⟨h1, h2⟩ := (hd u hu e (Way.cons.mp hwb).1).1 he
  have hWne := hne h2
  have : u ∈ W := by
    have hm : u ∈ start :: W := by rw [eu]; simp
    rcases List.mem_cons.mp hm with z | z
    · exfalso
      obtain ⟨W', w, e6⟩ := last_split hWne
      subst e6
      have : start :: (W' ++ [w]) = (start :: W') ++ [w] := rfl
      rw [this] at eu
      obtain ⟨_, e7⟩ := List.append_inj' eu rfl
      injection e7 with e7
      exact hs (by rw [← z, ← e7]; exact hW w (by simp))
    · exact z
  exact hs (h1 ▸ hW u this)
theorem last_map {o : Nat} {c : List Nat} (h : c ≠ []) : ((o :: c).map sN)[((o :: c).map sN).length - 1]? = some (sN (c.getLastD 0)) := by
  obtain ⟨c', z, rfl⟩ := last_split h
  rw [lastD_snoc, show o :: (c' ++ [z]) = (o :: c') ++ [z] from rfl, List.map_append, List.length_append, show ((o :: c').map sN).length + ([z].map sN).length - 1 = ((o :: c').map sN).length by simp, List.getElem?_append_right (Nat.le_refl _), Nat.sub_self]; rfl
theorem Back.isWay {near : List (List Nat)} {start o u : Nat} {goals inner : List Nat} {ps : List (Nat × Nat)} {c : List Nat} {l : Nat} (ha : Ah near start inner ps) (h : Back near start inner ps u c l) (he : c.getLastD 0 = start) (ho : o ∈ goals) (hou : o ∈ near.getD u []) (hs : start ∉ inner) (hsg : start ∉ goals) (hgi : ∀ g ∈ goals, g ∉ inner) (hne : inner ≠ [] → u ≠ start) : IsWay near start goals inner (o :: c).reverse := by
  obtain ⟨⟨h1, h0⟩, h2, h3, h4, h5⟩ := h
  obtain ⟨c', z, rfl⟩ := last_split h0
  rw [lastD_snoc] at he
  subst he
  have hmem : ∀ x ∈ c' ++ [z], x = z ∨ x ∈ inner := fun x hx => by
    obtain ⟨m, _, e⟩ := h3 x hx
    cases m with
    | zero => exact .inl (Option.some.inj e).symm
    | succ m =>
      rw [List.getElem?_cons_succ, List.getElem?_map] at e
      cases q : ps[m]? with
      | none => rw [q] at e; cases e
      | some p =>
        rw [q] at e
        have e : p.1 = x := Option.some.inj e
        subst e
        exact .inr (ha.from_ m p.1 p.2 q).1
  have e1 : (o :: (c' ++ [z])).reverse = z :: c'.reverse ++ [o] := by simp
  have hoc : o ∉ c' ++ [z] := fun hm => by
    rcases hmem o hm with e | e
    · exact hsg (e ▸ ho)
    · exact hgi o ho e
  have hn2 := List.nodup_append.mp h4
  rw [e1]
  refine ⟨o, c'.reverse, ho, rfl, ?_, fun w hw => ?_, ?_, fun hi z0 => ?_⟩
  · rw [← e1]
    refine List.pairwise_reverse.mpr ((List.nodup_cons.mpr ⟨hoc, h4⟩).imp fun h e => h e.symm)
  · have hw := List.mem_reverse.mp hw
    rcases hmem w (List.mem_append_left _ hw) with e | e
    · exact absurd e (fun e => hn2.2.2 w hw z (by simp) e)
    · exact e
  · cases hc : c' ++ [z] with
    | nil => simp at hc
    | cons a c2 =>
      rw [hc] at h1 h5
      have h1 : a = u := h1
      subst h1
      have e2 : z :: c'.reverse ++ [o] = c2.reverse ++ a :: [o] := by
        have := congrArg List.reverse hc
        simp at this
        rw [this]; simp
      rw [e2]
      refine Way.app.mpr ⟨?_, Way.cons.mpr ⟨hou, Way.one⟩⟩
      have e3 : c2.reverse ++ [a] = (a :: c2).reverse := by simp
      rw [e3]; exact h5
  · have : c' = [] := by simpa using z0
    subst this
    exact hne hi h1.symm
theorem pure_way_in (h : sp_way_in K C vs H Q E) : t_way_in K C { nx := fun _ H' => Q .non H', rt := Q } (L2.start N_way_in vs) H := by
  refine enterD h fun F ss s hf ha hR hq => ?_
  obtain ⟨near, ks, start, goals, inner, d, rfl, ⟨⟨dv, hrd, hkv⟩, hkc⟩, ⟨hn16, hnr⟩, hsk, hik, hsi, hsg, hgi, rfl⟩ := hR
  refine ⟨_, ha, ?_⟩
  show WP ⟨F, H, []⟩ [.v (.ref d), sN start, .d (dNs goals), .d (dNs inner), .no, .no, .no, .no, .no, .no] [] (t_way_in K C) _
  have hdne : ∀ x, H x = none → d ≠ x := fun x hx e => by
    subst e
    rcases hrd with h | ⟨o, h⟩ <;> rw [hx] at h <;> cases h
  refine q_new evN_dnewK fun ad had => ?_
  have had : H ad = none := had
  refine q_new (evN_lst (ea_cons (ev_var rfl rfl) ea_nil)) fun wl hwl => ?_
  have hwl : H wl = none := hwl
  refine q_asg ev_int ?_
  have hlen : ∀ {ps : List (Nat × Nat)}, Ah near start inner ps → ps.length + 1 ≤ 16 := fun {ps} hA => by
    have h1 := nodup_len hA.nd (n := near.length) (fun x hx => by
      rcases List.mem_cons.mp hx with rfl | hx
      · exact (hkc _ hsk).1
      · obtain ⟨p, hp, rfl⟩ := List.mem_map.mp hx
        obtain ⟨j, hj, rfl⟩ := List.getElem_of_mem hp
        exact (hkc _ (hik _ (hA.from_ j _ _ (List.getElem?_eq_getElem hj)).1)).1)
    rw [List.length_cons, List.length_map] at h1; omega
  have hwk : ∀ {ps : List (Nat × Nat)} {l u : Nat}, Ah near start inner ps → (start :: ps.map (·.1))[l]? = some u → u ∈ ks := fun {ps l u} hA hu => by
    cases l with
    | zero => rw [← Option.some.inj hu]; exact hsk
    | succ l =>
      rw [List.getElem?_cons_succ, List.getElem?_map] at hu
      cases q : ps[l]? with
      | none => rw [q] at hu; cases hu
      | some p => rw [q] at hu; rw [← Option.some.inj hu]; exact hik _ (hA.from_ l p.1 p.2 q).1
  have eI : ∀ (l : List Nat), Sd.d (dNs l) = Sd.d (.list ((l.map fun n : Nat => (n : Int)).map .int)) := fun l => by rw [List.map_map]; rfl
  have tin : ∀ {B' : Base} {Δ' C'} {i j : Nat} {x : Nat} {l : List Nat}, Δ'[i]? = some (sN x) → Δ'[j]? = some (.d (dNs l)) → EvT B' Δ' C' (tTest (tOp (rIn K false) (tVar i) (tVar j))) (decide (x ∈ l)) := fun {B' Δ' C' i j x l} hi hj => evT_eq (et_test (ev_op (ev_var hi rfl) (ev_eq (ev_var hj rfl) (eI l)) rv_inI)) (any_nats x l)
  refine q_while (α := List (Nat × Nat) × Nat) (fun a => Ah near start inner a.1 ∧ (∀ l u, l < a.2 → (start :: a.1.map (·.1))[l]? = some u → Done near start goals inner a.1 u (near.getD u [])) ∧ a.2 ≤ a.1.length + 1) (fun a => 17 - a.2) (fun a => [.v (.ref d), sN start, .d (dNs goals), .d (dNs inner), .v (.ref ad), .v (.ref wl), sN a.2, .any, .any, .any]) (fun a => [(wl, .lst ((start :: a.1.map (·.1)).map sN)), (ad, .dk (dK2 a.1))]) (fun a => decide (a.2 < a.1.length + 1)) ?_ ?_ ?_ ?_
  · exact nx_inv ([], 0) ⟨⟨by simp, fun j x y hj => by cases hj⟩, fun l u hl => by omega, by simp⟩
  · rintro ⟨ps, i⟩ _
    refine evT_eq (et_test (ev_op (ev_var rfl rfl) (ev_cb (ea_cons (ev_var rfl rfl) ea_nil) (rc_lenC (k := 0) rfl)) rv_ib)) ?_
    rw [decide_eq_decide, List.length_map, List.length_cons, List.length_map]; dsimp only; omega
  · rintro ⟨ps, i⟩ ⟨hA, hD, hi⟩ ht
    have ht : i < ps.length + 1 := of_decide_eq_true ht
    dsimp only at hA hD
    have hlp := hlen hA
    obtain ⟨u, hu⟩ : ∃ u, (start :: ps.map (·.1))[i]? = some u := ⟨_, List.getElem?_eq_getElem (by rw [List.length_cons, List.length_map]; exact ht)⟩
    have huk := hwk hA hu
    have hux := hkc u huk
    refine q_asg (s := sN u) (ev_op (ev_var rfl rfl) (ev_var rfl rfl) (rv_xC 0 rfl (atI_mapN sN hu))) ?_
    refine q_asg (s := sN (i + 1)) (ev_op (ev_var rfl rfl) ev_int rv_ii) ?_
    refine s_for1 (α := List (Nat × Nat)) dN (as := near.getD u []) (Src.list (ds := (near.getD u []).map dN) (ev_dgetB (d := d) (vs := dv) (kvs := dictN near ks) (x := .inl (u : Int)) (rdS_base hrd (by simp; exact ⟨hdne _ hwl, hdne _ had⟩)) hkv (ev_var rfl rfl) (ev_var rfl rfl) (look_dictN huk))) (fun j ps' => Ah near start inner ps' ∧ (∃ t, ps' = ps ++ t) ∧ (∀ l v, l < i → (start :: ps'.map (·.1))[l]? = some v → Done near start goals inner ps' v (near.getD v [])) ∧ Done near start goals inner ps' u ((near.getD u []).take j)) (fun _ ps' => [.v (.ref d), sN start, .d (dNs goals), .d (dNs inner), .v (.ref ad), .v (.ref wl), sN (i + 1), sN u, .any, .any]) (fun _ ps' => [(wl, .lst ((start :: ps'.map (·.1)).map sN)), (ad, .dk (dK2 ps'))]) (fun G => nx_inv ps ⟨hA, ⟨[], by simp⟩, hD, fun o ho => by simp at ho⟩) ?_ ?_
    · rintro G j ps' o hoj ⟨hA', hex, hD', hDu⟩
      have hou : o ∈ near.getD u [] := List.mem_of_getElem? hoj
      have hlp' := hlen hA'
      have hu' : (start :: ps'.map (·.1))[i]? = some u := by
        obtain ⟨t, rfl⟩ := hex
        rw [List.map_append, ← List.cons_append, List.getElem?_append_left (List.getElem?_eq_some_iff.mp hu).1]; exact hu
      have hnd' := (List.nodup_cons.mp hA'.nd)
      show WP ⟨F, H, G⟩ [.v (.ref d), sN start, .d (dNs goals), .d (dNs inner), .v (.ref ad), .v (.ref wl), sN (i + 1), sN u, sN o, .any] [(wl, .lst ((start :: ps'.map (·.1)).map sN)), (ad, .dk (dK2 ps'))] _ _
      refine q_when (b := decide (o ∈ goals) && (!decide (u = start) || decide (inner = []))) (et_and (tin rfl rfl) fun _ => et_or (evT_eq (et_test (ev_op (ev_var rfl rfl) (ev_var rfl rfl) rv_neI)) (by congr 1; rw [decide_eq_decide]; omega)) fun _ => et_test (ev_op (ev_var rfl rfl) ev_lst0 (rv_eqG (f := dNs) (a := inner) (b := []) faith_ns (sh_ns _) (sh_ns [])))) (fun c => ?_) (fun c => ?_)
      · -- a goal is come to
        simp only [Bool.and_eq_true, Bool.or_eq_true, Bool.not_eq_true', decide_eq_true_eq, decide_eq_false_iff_not] at c
        have hne : inner ≠ [] → u ≠ start := fun h1 => c.2.resolve_right h1
        refine q_new (c := .lst ((o :: [u]).map sN)) (evN_lst (ea_cons (ev_var rfl rfl) (ea_cons (ev_var rfl rfl) ea_nil))) fun wy hwy => ?_
        have hwy : H wy = none := hwy
        refine q_while (α := List Nat × Nat) (fun a => Back near start inner ps' u a.1 a.2) (fun a => a.2) (fun _ => [.v (.ref d), sN start, .d (dNs goals), .d (dNs inner), .v (.ref ad), .v (.ref wl), sN (i + 1), sN u, sN o, .v (.ref wy)]) (fun a => [(wy, .lst ((o :: a.1).map sN)), (wl, .lst ((start :: ps'.map (·.1)).map sN)), (ad, .dk (dK2 ps'))]) (fun a => !decide (a.1.getLastD 0 = start)) ?_ ?_ ?_ ?_
        · exact nx_inv ([u], i) ⟨⟨rfl, by simp⟩, hu', fun x hx => by rw [List.mem_singleton.mp hx]; exact ⟨i, Nat.le_refl _, hu'⟩, by simp, Way.one⟩
        · rintro ⟨cc, l⟩ hb
          refine evT_eq (et_test (ev_op (ev_op (ev_var rfl rfl) (ev_un ev_int ru_i) (rv_xC 0 rfl (at_last (last_map hb.head.2)))) (ev_var rfl rfl) rv_neI)) ?_
          congr 1; rw [decide_eq_decide]; dsimp only; omega
        · rintro ⟨cc, l⟩ hb htt
          have htt : ¬ cc.getLastD 0 = start := by simpa using htt
          have hb : Back near start inner ps' u cc l := hb
          obtain ⟨y, l', hl', hp, hb'⟩ := hb.step hA' htt
          have hcl : cc.length ≤ 16 := by
            have h1 := nodup_len hb.nd (n := near.length) (fun x hx => by
              obtain ⟨m, _, e⟩ := hb.more x hx
              exact (hkc _ (hwk hA' e)).1)
            omega
          refine s_app (k := 0) (s := sN y) rfl (ev_var rfl rfl) (ev_dgetK (k := 2) (x := .inl ((cc.getLastD 0 : Nat) : Int)) rfl (ev_var rfl rfl) (ev_op (ev_var rfl rfl) (ev_un ev_int ru_i) (rv_xC 0 rfl (at_last (last_map hb.head.2)))) (look_dK2 hnd'.2 hp)) (nx_inv (cc ++ [y], l') ⟨hb', hl'⟩ (hC := ?_)) (by rw [List.length_map, List.length_cons]; dsimp only; omega)
          rw [show o :: (cc ++ [y]) = (o :: cc) ++ [y] from rfl, List.map_append]; rfl
        · rintro ⟨cc, l⟩ hb htt
          have htt : cc.getLastD 0 = start := by simpa using htt
          have hb : Back near start inner ps' u cc l := hb
          have hw := hb.isWay hA' htt c.1 hou hsi hsg hgi hne
          refine wp_seq (s_rev (k := 0) (ds := (o :: cc).map dN) (by rw [List.map_map]; rfl) (ev_var rfl rfl) ?_)
          refine s_retC (ds := ((o :: cc).reverse).map dN) (k := 0) (show some (wy, Cd.lst (((o :: cc).map dN).reverse.map Sd.d)) = _ by rw [← List.map_reverse]) (ev_var rfl rfl) (fun v F' H' x w => hq v F' H' ⟨x.ff, x.fh, x.hh, x.gr⟩ ⟨_, ⟨(o :: cc).reverse, rfl, .inl hw⟩, w⟩) (by simp; exact ⟨hwy, hwl, had⟩)
      · have hgo : o ∈ goals → u = start ∧ inner ≠ [] := fun h1 => by
          rw [decide_eq_true h1, Bool.true_and] at c
          simp only [Bool.or_eq_false_iff, Bool.not_eq_false', decide_eq_true_eq, decide_eq_false_iff_not] at c
          exact c
        have hrow := (hnr _ (show near.getD u [] ∈ near by rw [List.getD_eq_getElem?_getD, List.getElem?_eq_getElem hux.1]; exact List.getElem_mem _)).1
        refine s_when (b := decide (o ∈ inner) && !decide (o ∈ ps'.map (·.1))) (et_and (tin rfl rfl) fun _ => evT_eq (et_B (ev_dniK (k := 1) (x := .inl (o : Int)) rfl (ev_var rfl rfl) (ev_var rfl rfl))) (by rw [look_dK2_some])) (fun c2 => ?_) (fun c2 => ?_)
        · simp only [Bool.and_eq_true, Bool.not_eq_true', decide_eq_true_eq, decide_eq_false_iff_not] at c2
          have hos : o ≠ start := fun e => hsi (e ▸ c2.1)
          have hA2 := hA'.add c2.1 hou hu' hos c2.2
          refine q_dputK (k := 1) (x := .inl (o : Int)) (s := sN u) rfl (ev_var rfl rfl) (ev_var rfl rfl) (ev_var rfl rfl) ?_ (by unfold dK2; rw [List.length_map]; omega)
          rw [put_dK2 c2.2]
          refine s_app (k := 0) (s := sN o) rfl (ev_var rfl rfl) (ev_var rfl rfl) (nx_inv (ps' ++ [(o, u)]) ⟨hA2, ?_, ?_, ?_⟩ (hC := ?_)) (by rw [List.length_map, List.length_cons, List.length_map]; omega)
          · obtain ⟨t, rfl⟩ := hex; exact ⟨t ++ [(o, u)], by simp⟩
          · intro l v hl hv
            have hil : i < (start :: ps'.map (·.1)).length := (List.getElem?_eq_some_iff.mp hu').1
            rw [List.map_append, ← List.cons_append, List.getElem?_append_left (by omega)] at hv
            exact (hD' l v hl hv).mono _
          · rw [take_succ hoj]
            intro x hx
            rcases List.mem_append.mp hx with hx | hx
            · exact hDu.mono _ x hx
            · rw [List.mem_singleton.mp hx]
              exact ⟨hgo, fun _ => by simp⟩
          · have e : (start :: (ps' ++ [(o, u)]).map (·.1)).map sN = (start :: ps'.map (·.1)).map sN ++ [sN o] := by simp
            rw [e]; rfl
        · refine nx_inv ps' ⟨hA', hex, hD', ?_⟩
          rw [take_succ hoj]
          intro x hx
          rcases List.mem_append.mp hx with hx | hx
          · exact hDu x hx
          · rw [List.mem_singleton.mp hx]
            refine ⟨hgo, fun h1 => ?_⟩
            rw [decide_eq_true h1, Bool.true_and] at c2
            simpa using c2
    · rintro ps' ⟨hA', hex, hD', hDu⟩
      rw [List.take_length] at hDu
      have hlp' := hlen hA'
      have hu' : (start :: ps'.map (·.1))[i]? = some u := by
        obtain ⟨t, rfl⟩ := hex
        rw [List.map_append, ← List.cons_append, List.getElem?_append_left (List.getElem?_eq_some_iff.mp hu).1]; exact hu
      have hil := (List.getElem?_eq_some_iff.mp hu').1
      rw [List.length_cons, List.length_map] at hil
      refine nx_inv (ps', i + 1) ⟨⟨hA', fun l v hl hv => ?_, by dsimp only; omega⟩, by dsimp only; omega⟩
      dsimp only at hl hv
      by_cases c : l < i
      · exact hD' l v c hv
      · have : l = i := by omega
        subst this
        rw [hu'] at hv
        cases hv
        exact hDu
  · rintro ⟨ps, i⟩ ⟨hA, hD, hi⟩ ht
    have ht : ¬ i < ps.length + 1 := of_decide_eq_false ht
    dsimp only at hA hD
    refine s_ret (s := .p (WayM near start goals inner)) (ev_dm (P := fun d => ∃ way, d = dNs way ∧ (IsWay near start goals inner way ∨ (way = [] ∧ ¬ ∃ w, IsWay near start goals inner w))) (d := dNs []) ev_lst0 ⟨[], rfl, .inr ⟨rfl, no_way (ps := ps) hsi fun u hu => ?_⟩⟩) hq (by simp; exact ⟨hwl, had⟩)
    obtain ⟨l, hl, e⟩ := List.getElem_of_mem hu
    have hl2 := hl
    rw [List.length_cons, List.length_map] at hl2
    exact hD l u (by omega) (by rw [List.getElem?_eq_getElem hl, e])
theorem pure_first_ring (h : sp_first_ring K C vs H Q E) : t_first_ring K C { nx := fun _ H' => Q .non H', rt := Q } (L2.start N_first_ring vs) H := by
  refine enterD h fun F ss s hf ha hR hq => ?_
  obtain ⟨near, ks, dv, d, t, rfl, hd, ht1, hne, rfl⟩ := hR
  refine ⟨_, ha, ?_⟩
  show WP ⟨F, H, []⟩ [.v (.ref d), .d (dTie t), .no, .no] [] (t_first_ring K C) _
  have hkl := hd.len
  have hcl := hd.cl
  refine q_lockB (α := Unit) (inv := fun _ => True) (Δf := fun _ => [.v (.ref d), .d (dTie t), .d (dNs (ks.filter fun p => !decide (p = t.1 ∨ p = t.2))), .no]) (Cf := fun _ => []) hd.hd hd.fd (by simp) (by simp) (fun _ _ => ⟨fun s hs => ?_, fun c hc => by cases hc⟩) (fun F1 H1 od D1 hl hend => ?_) fun _ _ => ?_
  · simp only [List.mem_cons, List.not_mem_nil, or_false] at hs
    rcases hs with rfl | rfl | rfl | rfl <;> exact trivial
  · refine s_asg (s := .d (dNs (ks.filter fun p => !decide (p = t.1 ∨ p = t.2)))) (ev_of' ((ks.filter fun p => !decide (p = t.1 ∨ p = t.2)).map dN) (evN_lc1 dN (fun p => !decide (p = t.1 ∨ p = t.2)) (fun p => .d (dN p)) (Src.keys hl.fd hd.keys (ev_var rfl rfl)) (fun B' p le hp => evT_eq (et_test (ev_op (ev_var rfl rfl) (ev_var rfl rfl) (rv_niTI (ns := [(t.1 : Int), (t.2 : Int)])))) ?_) (fun B' p le hp _ => ev_var rfl rfl) (by omega)) (by rw [List.map_map]; rfl)) (hend () trivial)
    congr 1
    rw [decide_eq_decide]
    simp only [List.mem_cons, List.not_mem_nil, or_false]
    omega
  · refine s_ret (ev_call (ea_cons (ev_var rfl rfl) (ea_cons (ev_op (ev_var rfl rfl) ev_int (rv_xT (d := dN t.1) (atI_nat (j := 0) rfl))) (ea_cons (ev_lst1 (ev_op (ev_var rfl rfl) ev_int (rv_xT (d := dN t.2) (atI_nat (j := 1) rfl)))) (ea_cons (ev_var rfl rfl) ea_nil)))) fun σ' H' F' hs' => ⟨near, ks, t.1, [t.2], ks.filter fun p => !decide (p = t.1 ∨ p = t.2), d, rfl, ⟨⟨dv, .inl (hs'.hh _ _ (by simp) hd.hd), KvA.mono hs'.ff hd.kv⟩, hcl⟩, hd.ok, ht1, fun x hx => (List.mem_filter.mp hx).1, fun hm => ?_, ?_, fun g hg hm => ?_, rfl⟩) hq
    · have := (List.mem_filter.mp hm).2; simp at this
    · simp; exact hne
    · rw [List.mem_singleton.mp hg] at hm
      have := (List.mem_filter.mp hm).2; simp at this
end
end DW

set_option Elab.async false
set_option linter.all false
set_option maxRecDepth 100000
set_option maxHeartbeats 1000000
set_option autoImplicit false
/-! drawing.py at work: pieces_left -/
namespace DX
open PySem L2 FD FX FQ FI FM FN FB FW FK FU DA DB DC DD DW
open FZ hiding ev_lstM
open Evl (Ex)
def PcsM (B laid : List Tie) : Mono := DM fun d => ∃ found, d = dPcs found ∧ (∀ p ∈ found, Piece B laid p.1 p.2) ∧ (∀ e i, Piece B laid e i → ∃ q ∈ found, ∀ x, x ∈ q.1 ↔ x ∈ e) ∧ found.length ≤ 60
def R_pieces_left : Hp → Hp → List Sd → Sd → Prop := fun F H ss s => ∃ B ks vs d laid pd pvs ld lvs, ss = [.v (.ref d), .d (dTies B), .v (.ref pd), .v (.ref ld)] ∧ FT.Nrm 16 B ∧ B.length ≤ 40 ∧ DictB F H d (nearOf 16 B) ks vs ∧ (∀ x, x ∈ ks ↔ Pt B x) ∧ H pd = some (.dK pvs) ∧ pd ≠ d ∧ (∀ x : Nat, (valV pvs (.inl (x : Int))).isSome = pl laid x) ∧ H ld = some (.dT lvs) ∧ (∀ t : Tie, (valV lvs (kT t)).isSome = decide (t ∈ laid)) ∧ s = .p (PcsM B laid)
def sp_pieces_left (K : PySem.W.Frag) (C : Addr) : Sp := SpD R_pieces_left
def N_pieces_left : List Str := ["near", "ties", "placed", "laid", "found", "tie", "met", "point", "inner", "ends", "one", "other"]
def t_pieces_left (K : PySem.W.Frag) (C : Addr) : TS :=
  (tSeq (tAsg (tLst tNil) (gName 4))
  (tSeq (tFor (iList K (tVar 1)) (gName 5) (tIfS (tAnd (tB (tDNotIn (tVar 5) (tVar 3))) (tAnd (tB (tDIn (tOp (rIx K) (tVar 5) (tC (.int 0))) (tVar 2))) (tB (tDIn (tOp (rIx K) (tVar 5) (tC (.int 1))) (tVar 2))))) (tDrop (tBM K "list" rAppend (tVar 4) (tCons (tTup (tCons (tLst (tCons (tOp (rIx K) (tVar 5) (tC (.int 0))) (tCons (tOp (rIx K) (tVar 5) (tC (.int 1))) tNil))) (tCons (tLst tNil) tNil))) tNil))) tNext))
  (tSeq (tAsg tDNewK (gName 6))
  (tSeq (tLock (tFor (iKeys (tVar 0)) (gName 7) (tIfS (tAnd (tB (tDNotIn (tVar 7) (tVar 2))) (tB (tDNotIn (tVar 7) (tVar 6)))) (tSeq (tAsg (tCall (sp_come_to K C) [] E0 (tCons (tVar 0) (tCons (tVar 7) (tCons (tVar 2) tNil)))) (gName 8))
  (tSeq (tAsg tDNewK (gName 9))
  (tSeq (tFor (iList K (tVar 8)) (gName 10) (tSeq (sDPut (tVar 6) (tVar 10) (tC (.bl true)))
  (tFor (iList K (tDGet (tVar 0) (tVar 10))) (gName 11) (tIfS (tB (tDIn (tVar 11) (tVar 2))) (sDPut (tVar 9) (tVar 11) (tC (.bl true))) tNext))))
  (tDrop (tBM K "list" rAppend (tVar 4) (tCons (tTup (tCons (tCB FU.rSortedDI (tCons (tVar 9) tNil)) (tCons (tVar 8) tNil))) tNil)))))) tNext)))
  (tRet (tVar 4))))))
/-- a dict of points met -/
def dkB (M : List Nat) : List (Key × Sd) := M.map fun x : Nat => (.inl (x : Int), .d (.bool true))
theorem look_dkB {x : Nat} : ∀ {M : List Nat}, (lookA (dkB M) (.inl (x : Int))).isSome = decide (x ∈ M)
  | [] => rfl
  | p :: M => by
    show (lookA ((.inl (p : Int), .d (.bool true)) :: dkB M) (.inl (x : Int))).isSome = _
    rw [lookA_cons]
    by_cases c : p = x
    · subst c; rw [if_pos rfl]; simp
    · rw [if_neg (fun z => c (by injection z; omega)), look_dkB, decide_eq_decide, List.mem_cons]
      exact ⟨.inr, fun h => h.resolve_left fun e => c e.symm⟩
theorem put_dkB {x : Nat} {M : List Nat} : putA (dkB M) (.inl (x : Int)) (.d (.bool true)) = dkB (addK M x) := by
  unfold addK
  by_cases c : x ∈ M
  · rw [if_pos c]
    unfold putA
    rw [if_pos]
    · unfold dkB
      rw [List.map_map]
      refine List.map_congr_left fun y _ => ?_
      show (if (Sum.inl (y : Int) : Key) = .inl (x : Int) then _ else _) = _
      split <;> rfl
    · exact List.any_eq_true.mpr ⟨(.inl (x : Int), .d (.bool true)), List.mem_map.mpr ⟨x, c, rfl⟩, by simp⟩
  · rw [if_neg c]
    have h2 := look_dkB (x := x) (M := M)
    rw [decide_eq_false c] at h2
    have : lookA (dkB M) (.inl (x : Int)) = none := by
      cases q : lookA (dkB M) (.inl (x : Int)) with
      | none => rfl
      | some s => rw [q] at h2; cases h2
    rw [putA_new _ this]
    unfold dkB; rw [List.map_append]; rfl
theorem mem_addK {M : List Nat} {x y : Nat} : y ∈ addK M x ↔ y ∈ M ∨ y = x := by
  unfold addK
  split
  · rename_i h; exact ⟨.inl, fun z => z.elim id fun e => e ▸ h⟩
  · rw [List.mem_append, List.mem_singleton]
theorem nodup_addK {M : List Nat} {x : Nat} (h : M.Nodup) : (addK M x).Nodup := by
  unfold addK
  split
  · exact h
  · rename_i c
    exact List.nodup_append.mpr ⟨h, by simp, fun a ha b hb e => c (by rw [List.mem_singleton.mp hb] at e; rw [← e]; exact ha)⟩
theorem len_addK {M : List Nat} {x : Nat} : (addK M x).length ≤ M.length + 1 := by
  unfold addK
  split
  · omega
  · rw [List.length_append]; simp
def okT (laid : List Tie) (t : Tie) : Bool := !decide (t ∈ laid) && (pl laid t.1 && pl laid t.2)
def tieP (t : Tie) : List Nat × List Nat := ([t.1, t.2], [])
/-- one piece's points and ends -/
theorem piece_of {B laid : List Tie} (hB : FT.Nrm 16 B) {p : Nat} (hp : Pt B p) (hpl : pl laid p = false) {E : List Nat} (hE : ∀ e, e ∈ E ↔ pl laid e = true ∧ ∃ x ∈ comeTo (nearOf 16 B) (pl laid) p, e ∈ (nearOf 16 B).getD x []) (hn : E.Nodup) : Piece B laid (sortN E) (comeTo (nearOf 16 B) (pl laid) p) := by
  have hlen : (nearOf 16 B).length = 16 := nearOf_len 16 B
  obtain ⟨h1, h2, h3⟩ := comeTo_ok (near := nearOf 16 B) (bar := pl laid) (s := p) (near_lt hB.good (Nat.le_refl _)) (by rw [hlen]; exact pt_lt hB hp)
  refine .inr ⟨p, hp, not_pl.mp hpl, h3, h1, (sortN_perm E).nodup_iff.mpr hn, fun e => ?_⟩
  rw [mem_sortN, hE, pl_iff]
  constructor
  · rintro ⟨a, x, hx, hxe⟩; exact ⟨a, x, hx, (adjB hB).mp hxe⟩
  · rintro ⟨a, x, hx, hxe⟩; exact ⟨a, x, hx, (adjB hB).mpr hxe⟩
structure PcI (B laid : List Tie) (L : List (List Nat × List Nat)) (M done : List Nat) : Prop where
  pc : ∀ p ∈ L, Piece B laid p.1 p.2
  ts : ∀ t ∈ B, okT laid t = true → tieP t ∈ L
  met : ∀ x ∈ M, ∃ q ∈ L, x ∈ q.2
  all : ∀ p ∈ done, pl laid p = true ∨ p ∈ M
  len : L.length ≤ 40 + done.length
  nd : M.Nodup
  lt : ∀ x ∈ M, x < 16
theorem PcI.fin {B laid : List Tie} (hB : FT.Nrm 16 B) {L : List (List Nat × List Nat)} {M ks : List Nat} (h : PcI B laid L M ks) (hk : ∀ x, x ∈ ks ↔ Pt B x) : ∀ e i, Piece B laid e i → ∃ q ∈ L, ∀ x, x ∈ q.1 ↔ x ∈ e := fun e i hp => by
  rcases hp with ⟨_, t, ht, htl, p1, p2, rfl⟩ | ⟨p, hp, hpl, hin, _, _, he⟩
  · exact ⟨tieP t, h.ts t ht (by unfold okT; rw [decide_eq_false htl, pl_iff.mpr p1, pl_iff.mpr p2]; rfl), fun x => Iff.rfl⟩
  · have hM := (h.all p ((hk p).mpr hp)).resolve_left fun z => hpl (pl_iff.mp z)
    obtain ⟨q, hq, hpq⟩ := h.met p hM
    refine ⟨q, hq, fun x => ?_⟩
    rcases h.pc q hq with ⟨z, _⟩ | ⟨p', hp', hpl', hin', _, _, he'⟩
    · rw [z] at hpq; cases hpq
    · have r1 := (hin' p).mp hpq
      have r2 := (reach_symm (symB hB) (not_pl.mpr hpl') r1).2
      have hsame : ∀ y, y ∈ q.2 ↔ y ∈ i := fun y => by
        rw [hin', hin]
        exact ⟨fun r => reach_trans r2 r, fun r => reach_trans r1 r⟩
      rw [he', he]
      constructor
      · rintro ⟨a, y, hy, hyx⟩; exact ⟨a, y, (hsame y).mp hy, hyx⟩
      · rintro ⟨a, y, hy, hyx⟩; exact ⟨a, y, (hsame y).mpr hy, hyx⟩
section
variable {K : PySem.W.Frag} {C : Addr} {vs : List V} {H : Hp} {Q : VK} {E : XK}
theorem pure_pieces_left (h : sp_pieces_left K C vs H Q E) : t_pieces_left K C { nx := fun _ H' => Q .non H', rt := Q } (L2.start N_pieces_left vs) H := by
  refine enterD h fun F ss s hf ha hR hq => ?_
  obtain ⟨B, ks, dv, d, laid, pd, pvs, ld, lvs, rfl, hB, hBl, hd, hks, hpd, hpne, hpl, hld, hll, rfl⟩ := hR
  refine ⟨_, ha, ?_⟩
  show WP ⟨F, H, []⟩ [.v (.ref d), .d (dTies B), .v (.ref pd), .v (.ref ld), .no, .no, .no, .no, .no, .no, .no, .no] [] (t_pieces_left K C) _
  have hkl := hd.len
  have hN : (nearOf 16 B).length = 16 := nearOf_len 16 B
  refine q_new evN_lst0 fun l hl => ?_
  have hl : H l = none := hl
  have hpl' : pd ≠ l := fun e => by rw [e, hl] at hpd; cases hpd
  have hll' : ld ≠ l := fun e => by rw [e, hl] at hld; cases hld
  have hdl : d ≠ l := fun e => by have := hd.hd; rw [e, hl] at this; cases this
  refine q_for1 (α := Unit) dTie (Src.list (ev_var rfl rfl)) (fun _ _ => True) (fun _ _ => [.v (.ref d), .d (dTies B), .v (.ref pd), .v (.ref ld), .v (.ref l), .any, .no, .no, .no, .no, .no, .no]) (fun i _ => [(l, .lst (((((B.take i).filter (okT laid)).map tieP).map dPc).map Sd.d))]) (fun G => nx_inv () trivial) ?_ ?_
  · intro G i _ t ht _
    have htl : (((B.take i).filter (okT laid)).map tieP).length ≤ 40 := by
      rw [List.length_map]
      have h1 := List.length_filter_le (okT laid) (B.take i)
      have h2 := List.length_take_le' i B
      omega
    have x0 : ∀ {C'}, Ev ⟨F, H, G⟩ ([.v (.ref d), .d (dTies B), .v (.ref pd), .v (.ref ld), .v (.ref l), .any, .no, .no, .no, .no, .no, .no].set 5 (.d (dTie t))) C' (tOp (rIx K) (tVar 5) (tC (.int 0))) (sN t.1) := ev_op (ev_var rfl rfl) ev_int (rv_xT (d := dN t.1) (atI_nat (j := 0) rfl))
    have x1 : ∀ {C'}, Ev ⟨F, H, G⟩ ([.v (.ref d), .d (dTies B), .v (.ref pd), .v (.ref ld), .v (.ref l), .any, .no, .no, .no, .no, .no, .no].set 5 (.d (dTie t))) C' (tOp (rIx K) (tVar 5) (tC (.int 1))) (sN t.2) := ev_op (ev_var rfl rfl) ev_int (rv_xT (d := dN t.2) (atI_nat (j := 1) rfl))
    refine s_when (b := okT laid t) (evT_eq (et_and (et_B (ev_dniBT (x := kT t) hld (by simpa using hll') (ev_var rfl rfl) (ev_var rfl rfl))) fun _ => et_and (et_B (ev_dinA (x := .inl (t.1 : Int)) hpd (by simpa using hpl') x0 (ev_var rfl rfl))) fun _ => et_B (ev_dinA (x := .inl (t.2 : Int)) hpd (by simpa using hpl') x1 (ev_var rfl rfl))) (by unfold okT; rw [hll, hpl, hpl])) (fun c => ?_) (fun c => ?_)
    · refine s_app (k := 0) (s := .d (dPc (tieP t))) rfl (ev_var rfl rfl) (ev_tup2 (ev_lst (ds := [dN t.1, dN t.2]) (ea_cons x0 (ea_cons x1 ea_nil)) (by show 2 ≤ 100000; decide)) ev_lst0) (nx_inv () trivial (hC := ?_)) (by rw [List.length_map, List.length_map]; omega)
      rw [take_succ ht, List.filter_append]
      simp only [List.filter_cons, c, if_true, List.filter_nil, List.map_append]; rfl
    · refine nx_inv () trivial (hC := ?_)
      rw [take_succ ht, List.filter_append]
      simp only [List.filter_cons, c, List.filter_nil]; simp
  intro _ _
  rw [List.take_length]
  have hL0l : ((B.filter (okT laid)).map tieP).length ≤ 40 := by
    rw [List.length_map]
    have h1 := List.length_filter_le (okT laid) B
    omega
  have hI0 : PcI B laid ((B.filter (okT laid)).map tieP) [] [] := by
    refine ⟨fun p hp => ?_, fun t ht h => List.mem_map.mpr ⟨t, List.mem_filter.mpr ⟨ht, h⟩, rfl⟩, fun x hx => (by cases hx), fun p hp => (by cases hp), (by rw [List.length_nil]; omega), List.nodup_nil, fun x hx => (by cases hx)⟩
    obtain ⟨t, ht, rfl⟩ := List.mem_map.mp hp
    obtain ⟨h1, h2⟩ := List.mem_filter.mp ht
    unfold okT at h2
    simp only [Bool.and_eq_true, Bool.not_eq_true', decide_eq_false_iff_not] at h2
    exact .inl ⟨rfl, t, h1, h2.1, pl_iff.mp h2.2.1, pl_iff.mp h2.2.2, rfl⟩
  generalize (B.filter (okT laid)).map tieP = L0 at hI0 hL0l
  refine q_new evN_dnewK fun m hm => ?_
  have hm : H m = none := hm
  have hdm : d ≠ m := fun e => by have := hd.hd; rw [e, hm] at this; cases this
  have hpm : pd ≠ m := fun e => by rw [e, hm] at hpd; cases hpd
  refine q_lockB (α := List (List Nat × List Nat) × List Nat) (inv := fun a => PcI B laid a.1 a.2 ks) (Δf := fun a => [.v (.ref d), .d (dTies B), .v (.ref pd), .v (.ref ld), .v (.ref l), .any, .v (.ref m), .any, .any, .any, .any, .any]) (Cf := fun a => [(m, .dk (dkB a.2)), (l, .lst ((a.1.map dPc).map Sd.d))]) hd.hd hd.fd (by simp; exact ⟨hdm, hdl⟩) (by simp; exact ⟨hm, hl⟩) (fun a _ => ⟨fun s hs => ?_, fun c hc => ?_⟩) (fun F1 H1 od D1 hlk hend => ?_) fun a ha => ?_
  · simp only [List.mem_cons, List.not_mem_nil, or_false] at hs
    rcases hs with rfl | rfl | rfl | rfl | rfl | rfl | rfl | rfl | rfl | rfl | rfl | rfl <;> exact trivial
  · simp only [List.mem_cons, List.not_mem_nil, or_false] at hc
    rcases hc with rfl | rfl
    · intro x hx
      obtain ⟨y, _, rfl⟩ := List.mem_map.mp hx
      exact trivial
    · intro x hx
      obtain ⟨y, _, rfl⟩ := List.mem_map.mp hx
      exact trivial
  · have hH1 : H1 pd = some (.dK pvs) := hlk.hh pd _ hpne (by simp; exact ⟨hpm, hpl'⟩) hpd
    have hH1d : ∀ {B' : Base} {Δ' C'}, Ex F1 B'.F → RdS B' Δ' C' d dv := fun e σ' H' F' hs' => .inr ⟨od, hs'.fh _ _ (hs'.ff _ _ (e _ _ hlk.fd))⟩
    have hKv : KvA F1 dv (dictN (nearOf 16 B) ks) := KvA.mono hlk.ff hd.kv
    refine s_for1 (α := List (List Nat × List Nat) × List Nat) dN (as := ks) (Src.keys hlk.fd hd.keys (ev_var rfl rfl)) (fun i a => PcI B laid a.1 a.2 (ks.take i)) (fun _ _ => [.v (.ref d), .d (dTies B), .v (.ref pd), .v (.ref ld), .v (.ref l), .any, .v (.ref m), .any, .any, .any, .any, .any]) (fun _ a => [(m, .dk (dkB a.2)), (l, .lst ((a.1.map dPc).map Sd.d))]) (fun G => nx_inv (L0, []) hI0) ?_ ?_
    · rintro G i ⟨L, M⟩ p hp hI
      dsimp only at hI
      have hpk := List.mem_of_getElem? hp
      have hpB := (hks p).mp hpk
      have hp16 := pt_lt hB hpB
      have hil := List.length_take_le' i ks
      have hLl := hI.len
      refine s_when (b := !pl laid p && !decide (p ∈ M)) (evT_eq (et_and (et_B (ev_dniA (x := .inl (p : Int)) hH1 (by simp; exact ⟨hpm, hpl'⟩) (ev_var rfl rfl) (ev_var rfl rfl))) fun _ => et_B (ev_dniK (k := 0) (x := .inl (p : Int)) rfl (ev_var rfl rfl) (ev_var rfl rfl))) (by rw [hpl, look_dkB])) (fun c => ?_) (fun c => ?_)
      · simp only [Bool.and_eq_true, Bool.not_eq_true', decide_eq_false_iff_not] at c
        obtain ⟨c1, c2, c3⟩ := comeTo_ok (near := nearOf 16 B) (bar := pl laid) (s := p) (near_lt hB.good (Nat.le_refl _)) (by rw [hN]; exact hp16)
        have hcl := nodup_len c1 c2
        rw [hN] at hcl
        refine q_asg (s := .d (dNs (comeTo (nearOf 16 B) (pl laid) p))) (ev_of' ((comeTo (nearOf 16 B) (pl laid) p).map dN) (evN_call (ea_cons (ev_var rfl rfl) (ea_cons (ev_var rfl rfl) (ea_cons (ev_var rfl rfl) ea_nil))) fun σ' H' F' hs' => ⟨nearOf 16 B, p, .v (.ref d), .v (.ref pd), pl laid, rfl, .inr ⟨d, ks, rfl, ⟨⟨dv, hH1d (Ex.refl F1) _ _ _ hs', KvA.mono hs'.ff hKv⟩, hd.cl⟩, hpk⟩, hd.ok, by rw [hN]; exact hp16, fun v hv => ?_, rfl⟩) (by rw [List.map_map]; rfl)) ?_
        · cases hv
          exact ⟨pd, pvs, rfl, hs'.hh _ _ (by simp; exact ⟨hpm, hpl'⟩) hH1, hpl⟩
        have hpiece := fun (E : List Nat) => piece_of (laid := laid) hB hpB c.1 (E := E)
        have hIk : ∀ x ∈ comeTo (nearOf 16 B) (pl laid) p, x ∈ ks := fun x hx => by
          have r := (c3 x).mp hx
          cases r with
          | base => exact hpk
          | step _ h3 _ => exact (hks x).mpr (pt_pair ((adjB hB).mp h3)).2
        have hpI : p ∈ comeTo (nearOf 16 B) (pl laid) p := (c3 p).mpr .base
        generalize comeTo (nearOf 16 B) (pl laid) p = I at *
        refine q_new evN_dnewK fun en hen => ?_
        have hen : H1 en = none := hen
        have hpe : pd ≠ en := fun e => by rw [e, hen] at hH1; cases hH1
        have h16 : ∀ {E : List Nat}, E.Nodup → (∀ e ∈ E, e < 16) → E.length ≤ 16 := fun h1 h2 => nodup_len h1 h2
        have hrow16 : ∀ x e, e ∈ (nearOf 16 B).getD x [] → e < 16 := fun x e he => (mem_near hB.good he).2.1
        refine q_for1 (α := List Nat × List Nat) dN (as := I) (Src.list (ev_var rfl rfl)) (fun j a => a.1.Nodup ∧ (∀ e, e ∈ a.1 ↔ pl laid e = true ∧ ∃ x ∈ I.take j, e ∈ (nearOf 16 B).getD x []) ∧ a.2.Nodup ∧ ∀ x, x ∈ a.2 ↔ x ∈ M ∨ x ∈ I.take j) (fun _ _ => [.v (.ref d), .d (dTies B), .v (.ref pd), .v (.ref ld), .v (.ref l), .any, .v (.ref m), sN p, .d (dNs I), .v (.ref en), .any, .any]) (fun _ a => [(en, .dk (dkB a.1)), (m, .dk (dkB a.2)), (l, .lst ((L.map dPc).map Sd.d))]) (fun G => nx_inv ([], M) ⟨List.nodup_nil, fun e => by simp, hI.nd, fun x => by simp⟩) ?_ ?_
        · rintro G2 j ⟨E0, M0⟩ x hx ⟨i1, i2, i3, i4⟩
          have hxI := List.mem_of_getElem? hx
          have hxk := hIk x hxI
          have hE16 : ∀ e ∈ E0, e < 16 := fun e he => by
            obtain ⟨_, y, _, h⟩ := (i2 e).mp he
            exact hrow16 y e h
          have hM16 : ∀ e ∈ M0, e < 16 := fun e he => by
            rcases (i4 e).mp he with h | h
            · exact hI.lt e h
            · have := c2 e (List.mem_of_mem_take h); rw [hN] at this; exact this
          have hMl := h16 i3 hM16
          refine q_dputK (k := 1) (x := .inl (x : Int)) (s := .d (.bool true)) rfl ev_bl (ev_var rfl rfl) (ev_var rfl rfl) ?_ (by unfold dkB; rw [List.length_map]; omega)
          rw [put_dkB]
          refine s_for1 (α := List Nat) dN (as := (nearOf 16 B).getD x []) (Src.list (ds := ((nearOf 16 B).getD x []).map dN) (ev_dgetB (d := d) (vs := dv) (kvs := dictN (nearOf 16 B) ks) (x := .inl (x : Int)) (hH1d (Ex.refl F1)) hKv (ev_var rfl rfl) (ev_var rfl rfl) (look_dictN hxk))) (fun k E' => E'.Nodup ∧ (∀ e, e ∈ E' ↔ e ∈ E0 ∨ (pl laid e = true ∧ e ∈ ((nearOf 16 B).getD x []).take k)) ∧ ∀ e ∈ E', e < 16) (fun _ _ => [.v (.ref d), .d (dTies B), .v (.ref pd), .v (.ref ld), .v (.ref l), .any, .v (.ref m), sN p, .d (dNs I), .v (.ref en), sN x, .any]) (fun _ E' => [(en, .dk (dkB E')), (m, .dk (dkB (addK M0 x))), (l, .lst ((L.map dPc).map Sd.d))]) (fun G => nx_inv E0 ⟨i1, fun e => by simp, hE16⟩) ?_ ?_
          · rintro G3 k E' o ho ⟨k1, k2, k3⟩
            have hol := h16 k1 k3
            refine s_when (b := pl laid o) (evT_eq (et_B (ev_dinA (x := .inl (o : Int)) hH1 (by simp; exact ⟨hpe, hpm, hpl'⟩) (ev_var rfl rfl) (ev_var rfl rfl))) (hpl o)) (fun c => ?_) (fun c => ?_)
            · refine s_dputK (k := 0) (x := .inl (o : Int)) (s := .d (.bool true)) rfl ev_bl (ev_var rfl rfl) (ev_var rfl rfl) (nx_inv (addK E' o) ⟨nodup_addK k1, fun e => ?_, fun e he => ?_⟩ (hC := by rw [put_dkB]; rfl)) (by unfold dkB; rw [List.length_map]; omega)
              · rw [mem_addK, k2, take_succ ho, List.mem_append, List.mem_singleton]
                constructor
                · rintro ((h | h) | rfl)
                  · exact .inl h
                  · exact .inr ⟨h.1, .inl h.2⟩
                  · exact .inr ⟨c, .inr rfl⟩
                · rintro (h | ⟨h1, h | rfl⟩)
                  · exact .inl (.inl h)
                  · exact .inl (.inr ⟨h1, h⟩)
                  · exact .inr rfl
              · rcases mem_addK.mp he with h | rfl
                · exact k3 e h
                · exact hrow16 x _ (List.mem_of_getElem? ho)
            · refine nx_inv E' ⟨k1, fun e => ?_, k3⟩
              rw [k2, take_succ ho, List.mem_append, List.mem_singleton]
              constructor
              · rintro (h | h)
                · exact .inl h
                · exact .inr ⟨h.1, .inl h.2⟩
              · rintro (h | ⟨h1, h | rfl⟩)
                · exact .inl h
                · exact .inr ⟨h1, h⟩
                · rw [c] at h1; cases h1
          · rintro E' ⟨k1, k2, k3⟩
            rw [List.take_length] at k2
            refine nx_inv (E', addK M0 x) ⟨k1, fun e => ?_, nodup_addK i3, fun y => ?_⟩
            · rw [k2, i2, take_succ hx]
              constructor
              · rintro (⟨h1, y, hy, h2⟩ | ⟨h1, h2⟩)
                · exact ⟨h1, y, List.mem_append_left _ hy, h2⟩
                · exact ⟨h1, x, by simp, h2⟩
              · rintro ⟨h1, y, hy, h2⟩
                rcases List.mem_append.mp hy with hy | hy
                · exact .inl ⟨h1, y, hy, h2⟩
                · rw [List.mem_singleton.mp hy] at h2; exact .inr ⟨h1, h2⟩
            · rw [mem_addK, i4, take_succ hx, List.mem_append, List.mem_singleton, or_assoc]
        · rintro ⟨E0, M0⟩ ⟨i1, i2, i3, i4⟩
          rw [List.take_length] at i2 i4
          have hE16 : ∀ e ∈ E0, e < 16 := fun e he => by
            obtain ⟨_, y, _, h⟩ := (i2 e).mp he
            exact hrow16 y e h
          have hEl := h16 i1 hE16
          have hpc := hpiece E0 i2 i1
          refine s_app (k := 2) (s := .d (dPc (sortN E0, I))) rfl (ev_var rfl rfl) (ev_tup2 (ev_of' ((sortN E0).map dN) (evN_cb (ea_cons (ev_var rfl rfl) ea_nil) (rcN_sortedDK (k := 0) rfl (by unfold dkB; rw [List.map_map]; rfl) (by omega))) (by rw [List.map_map]; rfl)) (ev_var rfl rfl)) (FR.nx_drop' hen (nx_inv (L ++ [(sortN E0, I)], M0) ⟨fun q hq' => ?_, fun t ht h => List.mem_append_left _ (hI.ts t ht h), fun x hx => ?_, fun q hq' => ?_, ?_, i3, fun x hx => ?_⟩ (hC := ?_))) (by rw [List.length_map, List.length_map]; omega)
          · rcases List.mem_append.mp hq' with h | h
            · exact hI.pc q h
            · rw [List.mem_singleton.mp h]; exact hpc
          · rcases (i4 x).mp hx with h | h
            · obtain ⟨q, h1, h2⟩ := hI.met x h
              exact ⟨q, List.mem_append_left _ h1, h2⟩
            · exact ⟨(sortN E0, I), by simp, h⟩
          · rw [take_succ hp] at hq'
            rcases List.mem_append.mp hq' with h | h
            · exact (hI.all q h).imp_right fun h => (i4 q).mpr (.inl h)
            · rw [List.mem_singleton.mp h]; exact .inr ((i4 p).mpr (.inr hpI))
          · rw [take_succ hp, List.length_append, List.length_append]; simp at hLl ⊢; omega
          · rcases (i4 x).mp hx with h | h
            · exact hI.lt x h
            · have := c2 x h; rw [hN] at this; exact this
          · rw [List.map_append, List.map_append]; rfl
      · refine nx_inv (L, M) ⟨hI.pc, hI.ts, hI.met, fun q hq' => ?_, ?_, hI.nd, hI.lt⟩
        · rw [take_succ hp] at hq'
          rcases List.mem_append.mp hq' with h1 | h1
          · exact hI.all q h1
          · rw [List.mem_singleton.mp h1]
            cases z : pl laid p with
            | true => exact .inl rfl
            | false => rw [z] at c; right; simpa using c
        · rw [take_succ hp, List.length_append]; dsimp only; omega
    · rintro ⟨L, M⟩ hI
      rw [List.take_length] at hI
      exact hend (L, M) hI
  · refine s_retC (ds := a.1.map dPc) (k := 1) rfl (ev_var rfl rfl) (fun v F' H' x w => hq v F' H' x ⟨_, ⟨a.1, rfl, ha.pc, ha.fin hB hks, ?_⟩, w⟩) (by simp; exact ⟨hm, hl⟩)
    have := ha.len; omega
end
/-! ### a step of fields_of -/
theorem fits_congr {fields : List (List Nat)} {a b : List Nat} (h : ∀ x, x ∈ a ↔ x ∈ b) : fits fields a = fits fields b := by
  unfold fits
  refine List.filter_congr fun k _ => ?_
  rw [Bool.eq_iff_iff, List.all_eq_true, List.all_eq_true]
  exact ⟨fun z x hx => z x ((h x).mpr hx), fun z x hx => z x ((h x).mp hx)⟩
theorem run_next {B laid : List Tie} {fields : List (List Nat)} (hr : Run B fields laid) {found : List (List Nat × List Nat)} (h1 : ∀ p ∈ found, Piece B laid p.1 p.2) (h2 : ∀ e i, Piece B laid e i → ∃ q ∈ found, ∀ x, x ∈ q.1 ↔ x ∈ e) {p : List Nat × List Nat} (hp : p ∈ found) (hmin : ∀ q ∈ found, (fits fields p.1).length ≤ (fits fields q.1).length) {i : Nat} (hi : i ∈ fits fields p.1) {way : List Nat} (hw : IsWay (N16 B) (p.1.headD 0) p.1.tail p.2 way) :
    Run B (fields.eraseIdx i ++ partedL (fields.getD i []) way) (laid ++ (dl way).map pT) := .step hr (h1 p hp) (fun e' i' h => by
  obtain ⟨q, hq, hs⟩ := h2 e' i' h
  have := hmin q hq
  rw [fits_congr hs] at this; exact this) hw hi
/-- while a tie is left a piece is told -/
theorem found_ne {B laid : List Tie} (hB : Blk B) (hsub : ∀ t ∈ laid, t ∈ B) (hl : laid.length < B.length) {found : List (List Nat × List Nat)} (h2 : ∀ e i, Piece B laid e i → ∃ q ∈ found, ∀ x, x ∈ q.1 ↔ x ∈ e) : found ≠ [] := fun e => by
  subst e
  have hnd : B.Nodup := hB.nrm.good.pw.imp fun h => h.1
  obtain ⟨t, ht, htl⟩ : ∃ t ∈ B, t ∉ laid := by
    refine Classical.byContradiction fun h => ?_
    have hs : ∀ t ∈ B, t ∈ laid := fun t ht => Classical.byContradiction fun z => h ⟨t, ht, z⟩
    have := List.Nodup.length_le_of_subset hnd hs
    omega
  have hpc : ∃ e i, Piece B laid e i := by
    rcases piece_any hB ht htl with ⟨p1, p2⟩ | ⟨p, hp, hpl⟩
    · exact ⟨_, _, .inl ⟨rfl, t, ht, htl, p1, p2, rfl⟩⟩
    · classical
      refine ⟨_, _, piece_of hB.nrm hp (not_pl.mpr hpl) (E := ((List.range 16).filter fun e => pl laid e && decide (∃ x ∈ comeTo (nearOf 16 B) (pl laid) p, e ∈ (nearOf 16 B).getD x []))) (fun e => ?_) ((List.nodup_range).filter _)⟩
      rw [List.mem_filter, List.mem_range, Bool.and_eq_true, decide_eq_true_eq]
      refine ⟨fun z => z.2, fun z => ⟨?_, z⟩⟩
      exact pt_lt hB.nrm (pt_sub hsub (pl_iff.mp z.1))
  obtain ⟨e, i, hp⟩ := hpc
  obtain ⟨q, hq, _⟩ := h2 e i hp
  cases hq
/-! ### turns_of: who follows whom -/
/-- the corners that a field tells: later[f[at - 2], f[at - 1]] = f[at] -/
def cornerK (f : List Nat) (k : Nat) : (Nat × Nat) × Nat := (((f.getD ((k + f.length - 2) % f.length) 0), (f.getD ((k + f.length - 1) % f.length) 0)), f.getD k 0)
theorem rds_at {f : List Nat} (h : 2 ≤ f.length) {k : Nat} (hk : k < f.length) : (f.getD k 0, f.getD ((k + 1) % f.length) 0) ∈ rds f := by
  have hg : ∀ i, i < f.length → f[i]? = some (f.getD i 0) := fun i hi => by
    rw [List.getD_eq_getElem?_getD, List.getElem?_eq_getElem hi]; rfl
  unfold rds
  by_cases c : k + 1 < f.length
  · rw [Nat.mod_eq_of_lt c]
    refine mem_dl.mpr ⟨f.take k, f.drop (k + 2) ++ f.take 1, ?_⟩
    have e1 : f = f.take k ++ f.getD k 0 :: f.getD (k + 1) 0 :: f.drop (k + 2) := by
      have h1 := List.drop_eq_getElem_cons hk
      have h2 := List.drop_eq_getElem_cons c
      have e2 : f[k] = f.getD k 0 := by have := hg k hk; rw [List.getElem?_eq_getElem hk] at this; exact Option.some.inj this
      have e3 : f[k + 1] = f.getD (k + 1) 0 := by have := hg (k + 1) c; rw [List.getElem?_eq_getElem c] at this; exact Option.some.inj this
      rw [← e2, ← e3, ← h2, ← h1, List.take_append_drop]
    conv => lhs; rw [e1]
    have e4 : (f.take k ++ f.getD k 0 :: f.getD (k + 1) 0 :: f.drop (k + 2)).take 1 = f.take 1 := by rw [← e1]
    rw [e4]; simp
  · have ek : k + 1 = f.length := by omega
    rw [ek, Nat.mod_self]
    cases f with
    | nil => simp at h
    | cons a f =>
      refine mem_dl.mpr ⟨(a :: f).take k, [], ?_⟩
      have e1 : a :: f = (a :: f).take k ++ [(a :: f).getD k 0] := by
        have h1 := List.drop_eq_getElem_cons hk
        have e2 : (a :: f)[k] = (a :: f).getD k 0 := by have := hg k hk; rw [List.getElem?_eq_getElem hk] at this; exact Option.some.inj this
        have e3 : (a :: f).drop (k + 1) = [] := List.drop_of_length_le (by omega)
        rw [e3] at h1
        rw [← e2, ← h1, List.take_append_drop]
      show (a :: f) ++ [a] = (a :: f).take k ++ [(a :: f).getD k 0, a]
      rw [show (a :: f).take k ++ [(a :: f).getD k 0, a] = ((a :: f).take k ++ [(a :: f).getD k 0]) ++ [a] by simp, ← e1]
theorem idx_at {t : List Nat} (h : t.Nodup) {j : Nat} (hj : j < t.length) : t.idxOf (t.getD j 0) = j := by
  have e2 : t.getD j 0 = t[j] := by rw [List.getD_eq_getElem?_getD, List.getElem?_eq_getElem hj]; rfl
  have h1 : t = t.take j ++ t[j] :: t.drop (j + 1) := by rw [← List.drop_eq_getElem_cons hj, List.take_append_drop]
  rw [e2]
  have hn := h
  rw [h1] at hn
  have hx : t[j] ∉ t.take j := fun z => (List.nodup_append.mp hn).2.2 _ z _ List.mem_cons_self rfl
  have := DA.idxOf_mid (l2 := t.drop (j + 1)) hx
  rw [← h1, List.length_take] at this
  omega
theorem succT_idx {t : List Nat} (h : t.Nodup) {j : Nat} (hj : j < t.length) : FR.succT t (t.getD j 0) = t.getD ((j + 1) % t.length) 0 := by
  unfold FR.succT
  rw [idx_at h hj]
theorem rot_get {t : List Nat} {i k : Nat} (hi : i ≤ t.length) (hk : k < t.length) : (t.drop i ++ t.take i).getD k 0 = t.getD ((i + k) % t.length) 0 := by
  rw [List.getD_eq_getElem?_getD, List.getD_eq_getElem?_getD]
  congr 1
  by_cases c : k < t.length - i
  · rw [List.getElem?_append_left (by rw [List.length_drop]; exact c), List.getElem?_drop, Nat.mod_eq_of_lt (by omega)]
  · rw [List.getElem?_append_right (by rw [List.length_drop]; omega), List.length_drop, List.getElem?_take_of_lt (by omega)]
    have e : (i + k) % t.length = k - (t.length - i) := by
      rw [show i + k = (k - (t.length - i)) + t.length by omega, Nat.add_mod_right, Nat.mod_eq_of_lt (by omega)]
    rw [e]
theorem rot_next {t : List Nat} (h : t.Nodup) {i k : Nat} (hi : i ≤ t.length) (hk : k + 1 < t.length) : FR.succT t ((t.drop i ++ t.take i).getD k 0) = (t.drop i ++ t.take i).getD (k + 1) 0 := by
  rw [rot_get hi (by omega), rot_get hi hk, succT_idx h (Nat.mod_lt _ (by omega))]
  congr 1
  rw [← Nat.add_assoc, Nat.mod_add_mod]
end DX

set_option Elab.async false
set_option linter.all false
set_option maxRecDepth 100000
set_option maxHeartbeats 1000000
set_option autoImplicit false
/-! drawing.py at work: turns_of -/
namespace DY
open PySem L2 FD FX FQ FI FM FN FB FW FK FU DA DB DC DD DW DX
open FZ hiding ev_lstM
open Evl (Ex)
/-- f[k - 2], f[k - 1] where these wind round -/
theorem at_back {f : List Nat} {k c : Nat} (hk : k < f.length) (hc : c ≤ f.length) (hc0 : 0 < c) : atI f ((k : Int) - (c : Int)) = some (f.getD ((k + f.length - c) % f.length) 0) := by
  have hg : ∀ i, i < f.length → f[i]? = some (f.getD i 0) := fun i hi => by
    rw [List.getD_eq_getElem?_getD, List.getElem?_eq_getElem hi]; rfl
  by_cases h : c ≤ k
  · have e : ((k : Int) - (c : Int)) = ((k - c : Nat) : Int) := by omega
    rw [e, show k + f.length - c = (k - c) + f.length by omega, Nat.add_mod_right, Nat.mod_eq_of_lt (by omega)]
    exact atI_nat (hg _ (by omega))
  · rw [Nat.mod_eq_of_lt (by omega)]
    unfold atI
    rw [show ixN f.length ((k : Int) - (c : Int)) = some (k + f.length - c) from by
      unfold ixN
      rw [if_neg (by omega), if_pos (by omega)]
      congr 1
      omega]
    exact hg _ (by omega)
/-- a corner: the two steps stand in a field -/
theorem corner_at {f : List Nat} (h : 2 ≤ f.length) {k : Nat} (hk : k < f.length) : (f.getD ((k + f.length - 2) % f.length) 0, f.getD ((k + f.length - 1) % f.length) 0) ∈ rds f ∧ (f.getD ((k + f.length - 1) % f.length) 0, f.getD k 0) ∈ rds f := by
  have h1 := rds_at h (k := (k + f.length - 2) % f.length) (Nat.mod_lt _ (by omega))
  have h2 := rds_at h (k := (k + f.length - 1) % f.length) (Nat.mod_lt _ (by omega))
  rw [Nat.mod_add_mod] at h1 h2
  rw [show k + f.length - 2 + 1 = k + f.length - 1 by omega] at h1
  rw [show k + f.length - 1 + 1 = k + f.length by omega, Nat.add_mod_right, Nat.mod_eq_of_lt hk] at h2
  exact ⟨h1, h2⟩
def turnL (T : Nat → List Nat) (near : List (List Nat)) (p : Nat) : List Nat := rotTo (T p) ((near.getD p []).headD 0)
def R_turns_of : Hp → Hp → List Sd → Cd → Prop := fun F H ss c => ∃ B ks vs d laid fields T, ss = [.d (dNear fields), .v (.ref d)] ∧ FT.Nrm 16 B ∧ DictB F H d (nearOf 16 B) ks vs ∧ (∀ x, x ∈ ks ↔ Pt B x) ∧ Emb T laid fields ∧ (∀ t, t ∈ laid ↔ t ∈ B) ∧ fields.length ≤ 100 ∧ (∀ f ∈ fields, f.length ≤ 100) ∧ c = .dk (ks.map fun p : Nat => (.inl (p : Int), .d (dNs (turnL T (nearOf 16 B) p))))
def sp_turns_of (K : PySem.W.Frag) (C : Addr) : Sp := SpN R_turns_of
def N_turns_of : List Str := ["fields", "near", "later", "field", "at", "found", "point", "turn"]
def t_turns_of (K : PySem.W.Frag) (C : Addr) : TS :=
  (tSeq (tAsg tDNewT (gName 2))
  (tSeq (tFor (iList K (tVar 0)) (gName 3) (tFor (iRng1 (tCons (tCB (xLen K) (tCons (tVar 3) tNil)) tNil)) (gName 4) (sDPut (tVar 2) (tTup (tCons (tOp (rIx K) (tVar 3) (tOp (rI0 fun i j => .int (i - j)) (tVar 4) (tC (.int 2)))) (tCons (tOp (rIx K) (tVar 3) (tOp (rI0 fun i j => .int (i - j)) (tVar 4) (tC (.int 1)))) tNil))) (tOp (rIx K) (tVar 3) (tVar 4)))))
  (tSeq (tAsg tDNewK (gName 5))
  (tSeq (tLock (tFor (iKeys (tVar 1)) (gName 6) (tSeq (tAsg (tLst (tCons (tOp (rIx K) (tDGet (tVar 1) (tVar 6)) (tC (.int 0))) tNil)) (gName 7))
  (tSeq (tWhile (tTest (tOp (rI0 fun i j => .bl (decide (i < j))) (tCB (xLen K) (tCons (tVar 7) tNil)) (tCB (xLen K) (tCons (tDGet (tVar 1) (tVar 6)) tNil)))) (tDrop (tBM K "list" rAppend (tVar 7) (tCons (tDGet (tVar 2) (tTup (tCons (tOp (rIx K) (tVar 7) (tUn (rU fun i => .int (-i)) (tC (.int 1)))) (tCons (tVar 6) tNil)))) tNil))))
  (sDPut (tVar 5) (tVar 6) (tVar 7))))))
  (tRet (tVar 5))))))
/-- what `later` holds -/
structure Lat (T : Nat → List Nat) (kvs : List (List Key × Sd)) (done : List (Nat × Nat)) : Prop where
  pl : ∀ x ∈ kvs, plainS x.2
  val : ∀ s : Tie, lookA kvs (kT s) = none ∨ lookA kvs (kT s) = some (sN (FR.succT (T s.2) s.1))
  all : ∀ s ∈ done, lookA kvs (kT s) ≠ none
theorem Lat.put {T : Nat → List Nat} {kvs : List (List Key × Sd)} {done : List (Nat × Nat)} (h : Lat T kvs done) {x p y : Nat} (e : FR.succT (T p) x = y) : Lat T (putA kvs (kT (x, p)) (sN y)) (done ++ [(x, p)]) := by
  refine ⟨fun z hz => ?_, fun s => ?_, fun s hs => ?_⟩
  · unfold putA at hz
    split at hz
    · obtain ⟨w, hw, rfl⟩ := List.mem_map.mp hz
      split
      · exact trivial
      · exact h.pl w hw
    · rcases List.mem_append.mp hz with hz | hz
      · exact h.pl z hz
      · rw [List.mem_singleton.mp hz]; exact trivial
  · rw [lookA_put]
    by_cases c : kT s = kT (x, p)
    · rw [if_pos c]
      right
      have := kT_inj c
      subst this
      dsimp only
      rw [e]
    · rw [if_neg c]; exact h.val s
  · rw [lookA_put]
    by_cases c : kT s = kT (x, p)
    · rw [if_pos c]; simp
    · rw [if_neg c]
      rcases List.mem_append.mp hs with hs | hs
      · exact h.all s hs
      · exact absurd (by rw [List.mem_singleton.mp hs]) c
theorem rds_idx {f : List Nat} {a b : Nat} (h : (a, b) ∈ rds f) : ∃ j, j < f.length ∧ a = f.getD j 0 ∧ b = f.getD ((j + 1) % f.length) 0 := by
  cases f with
  | nil => cases h
  | cons x f =>
    obtain ⟨l1, l2, e⟩ := mem_dl.mp h
    have e : (x :: f) ++ [x] = l1 ++ a :: b :: l2 := e
    have hl := congrArg List.length e
    simp at hl
    have hj : l1.length < (x :: f).length := by rw [List.length_cons]; omega
    have ha : ((x :: f) ++ [x])[l1.length]? = some a := by rw [e, List.getElem?_append_right (Nat.le_refl _), Nat.sub_self]; rfl
    have hb : ((x :: f) ++ [x])[l1.length + 1]? = some b := by rw [e, List.getElem?_append_right (by omega), show l1.length + 1 - l1.length = 1 by omega]; rfl
    rw [List.getElem?_append_left hj] at ha
    refine ⟨l1.length, hj, by rw [List.getD_eq_getElem?_getD, ha]; rfl, ?_⟩
    by_cases c : l1.length + 1 < (x :: f).length
    · rw [List.getElem?_append_left c] at hb
      rw [Nat.mod_eq_of_lt c, List.getD_eq_getElem?_getD, hb]; rfl
    · have ec : l1.length + 1 = (x :: f).length := by omega
      rw [ec, List.getElem?_append_right (Nat.le_refl _), Nat.sub_self] at hb
      rw [ec, Nat.mod_self]
      exact (Option.some.inj hb).symm
/-- every step of a field is met as a corner's first -/
theorem corner_all {f : List Nat} (h : 2 ≤ f.length) {a b : Nat} (m : (a, b) ∈ rds f) : ∃ k, k < f.length ∧ a = f.getD ((k + f.length - 2) % f.length) 0 ∧ b = f.getD ((k + f.length - 1) % f.length) 0 := by
  obtain ⟨j, hj, ha, hb⟩ := rds_idx m
  refine ⟨(j + 2) % f.length, Nat.mod_lt _ (by omega), ?_, ?_⟩
  · rw [ha]
    congr 1
    by_cases c : j + 2 < f.length
    · rw [Nat.mod_eq_of_lt c, show j + 2 + f.length - 2 = j + f.length by omega, Nat.add_mod_right, Nat.mod_eq_of_lt hj]
    · have e : (j + 2) % f.length = j + 2 - f.length := by
        rw [show j + 2 = (j + 2 - f.length) + f.length by omega, Nat.add_mod_right, Nat.mod_eq_of_lt (by omega)]; omega
      rw [e, show j + 2 - f.length + f.length - 2 = j by omega, Nat.mod_eq_of_lt hj]
  · rw [hb]
    congr 1
    by_cases c : j + 2 < f.length
    · rw [Nat.mod_eq_of_lt c, show j + 2 + f.length - 1 = (j + 1) + f.length by omega, Nat.add_mod_right]
    · have e : (j + 2) % f.length = j + 2 - f.length := by
        rw [show j + 2 = (j + 2 - f.length) + f.length by omega, Nat.add_mod_right, Nat.mod_eq_of_lt (by omega)]; omega
      rw [e, show j + 2 - f.length + f.length - 1 = j + 1 by omega]
theorem Lat.mono {T : Nat → List Nat} {kvs : List (List Key × Sd)} {done done' : List (Nat × Nat)} (h : Lat T kvs done) (hs : ∀ s ∈ done', s ∈ done) : Lat T kvs done' := ⟨h.pl, h.val, fun s m => h.all s (hs s m)⟩
def cor1 (f : List Nat) (k : Nat) : Nat × Nat := (f.getD ((k + f.length - 2) % f.length) 0, f.getD ((k + f.length - 1) % f.length) 0)
theorem putA_len {κ β : Type} [DecidableEq κ] (kvs : List (κ × β)) (k : κ) (v : β) : (putA kvs k v).length ≤ kvs.length + 1 := by
  unfold putA
  split
  · rw [List.length_map]; omega
  · rw [List.length_append]; simp
section
variable {K : PySem.W.Frag} {C : Addr} {B : Base} {G : List (V × Sd)}
/-- one field's corners put down -/
theorem wp_field {T : Nat → List Nat} {f : List Nat} {lt : Addr} {done : List (Nat × Nat)} {kvs : List (List Key × Sd)} {D : Ends} {N : Nat} (hl2 : 2 ≤ f.length) (hf : f.length ≤ 100) (hN : N ≤ 20000) (hk : kvs.length ≤ N) (hL : Lat T kvs done)
    (hcor : ∀ x p y, (x, p) ∈ rds f → (p, y) ∈ rds f → FR.succT (T p) x = y) {a b c d e : Sd}
    (kk : ∀ kvs', kvs'.length ≤ N + 100 → Lat T kvs' (done ++ rds f) → Nx B [a, b, .v (.ref lt), .d (dNs f), .any, c, d, e] [(lt, .dt kvs')] D.nx) :
    WP B [a, b, .v (.ref lt), .d (dNs f), .any, c, d, e] [(lt, .dt kvs)] (tFor (iRng1 (tCons (tCB (xLen K) (tCons (tVar 3) tNil)) tNil)) (gName 4) (sDPut (tVar 2) (tTup (tCons (tOp (rIx K) (tVar 3) (tOp (rI0 fun i j => .int (i - j)) (tVar 4) (tC (.int 2)))) (tCons (tOp (rIx K) (tVar 3) (tOp (rI0 fun i j => .int (i - j)) (tVar 4) (tC (.int 1)))) tNil))) (tOp (rIx K) (tVar 3) (tVar 4)))) D := by
  refine s_for1 (α := List (List Key × Sd)) dN (Src.rN (n := f.length) (ea_cons (ev_eq (ev_cb (ea_cons (ev_var rfl rfl) ea_nil) rc_lenL) (by rw [List.length_map])) ea_nil)) (fun i kvs => Lat T kvs (done ++ (List.range i).map (cor1 f)) ∧ kvs.length ≤ N + i) (fun _ _ => [a, b, .v (.ref lt), .d (dNs f), .any, c, d, e]) (fun _ kvs => [(lt, .dt kvs)]) (fun G => nx_inv kvs ⟨by simpa using hL, by omega⟩ (.same (.same (.same (.same (.any (.same (.same (.same .nil))))))))) ?_ ?_
  · rintro G i kvs k hki ⟨h1, h2⟩
    obtain ⟨rfl, hkl⟩ := FK.range_get hki
    obtain ⟨c1, c2⟩ := corner_at hl2 hkl
    refine s_dputT (k := 0) (x := kT (cor1 f k)) (s := sN (f.getD k 0)) rfl (ev_op (ev_var rfl rfl) (ev_var rfl rfl) (rv_xL (atI_mapN dN (by rw [List.getD_eq_getElem?_getD, List.getElem?_eq_getElem hkl]; rfl)))) (ev_var rfl rfl) (ev_tup2 (a := dN (cor1 f k).1) (b := dN (cor1 f k).2) (ev_op (ev_var rfl rfl) (ev_op (ev_var rfl rfl) ev_int rv_ii) (rv_xL (atI_map dN (at_back (c := 2) hkl hl2 (by decide))))) (ev_op (ev_var rfl rfl) (ev_op (ev_var rfl rfl) ev_int rv_ii) (rv_xL (atI_map dN (at_back (c := 1) hkl (by omega) (by decide)))))) (nx_inv (putA kvs (kT (cor1 f k)) (sN (f.getD k 0))) ⟨?_, ?_⟩ (.same (.same (.same (.same (.any (.same (.same (.same .nil))))))))) (by omega)
    · rw [List.range_succ, List.map_append, ← List.append_assoc]
      exact h1.put (hcor _ _ _ c1 c2)
    · have := putA_len kvs (kT (cor1 f k)) (sN (f.getD k 0)); omega
  · rintro kvs' ⟨h1, h2⟩
    rw [List.length_range] at h1 h2
    refine kk kvs' (by omega) (h1.mono fun s hs => ?_)
    rcases List.mem_append.mp hs with hs | hs
    · exact List.mem_append_left _ hs
    · obtain ⟨k, hk', e1, e2⟩ := corner_all hl2 (show (s.1, s.2) ∈ rds f from hs)
      exact List.mem_append_right _ (List.mem_map.mpr ⟨k, List.mem_range.mpr hk', (Prod.ext e1 e2).symm⟩)
end
section
variable {K : PySem.W.Frag} {C : Addr} {vs : List V} {H : Hp} {Q : VK} {E : XK}
/-- all fields' corners put down -/
theorem wp_fields {F : Hp} {T : Nat → List Nat} {laid : List Tie} {fields : List (List Nat)} {lt : Addr} {tz : TS} {D : Ends} {b : Sd} (hT : Emb T laid fields) (hfl : fields.length ≤ 100) (hfe : ∀ f ∈ fields, f.length ≤ 100)
    (kk : ∀ kvs, Lat T kvs (fields.flatMap rds) → WP ⟨F, H, []⟩ [.d (dNear fields), b, .v (.ref lt), .any, .any, .no, .no, .no] [(lt, .dt kvs)] tz D) :
    WP ⟨F, H, []⟩ [.d (dNear fields), b, .v (.ref lt), .no, .no, .no, .no, .no] [(lt, .dt [])] (tSeq (tFor (iList K (tVar 0)) (gName 3) (tFor (iRng1 (tCons (tCB (xLen K) (tCons (tVar 3) tNil)) tNil)) (gName 4) (sDPut (tVar 2) (tTup (tCons (tOp (rIx K) (tVar 3) (tOp (rI0 fun i j => .int (i - j)) (tVar 4) (tC (.int 2)))) (tCons (tOp (rIx K) (tVar 3) (tOp (rI0 fun i j => .int (i - j)) (tVar 4) (tC (.int 1)))) tNil))) (tOp (rIx K) (tVar 3) (tVar 4))))) tz) D := by
  refine q_for1 (α := List (List Key × Sd)) dNs (Src.list (ev_var rfl rfl)) (fun i kvs => Lat T kvs ((fields.take i).flatMap rds) ∧ kvs.length ≤ 100 * i) (fun _ _ => [.d (dNear fields), b, .v (.ref lt), .any, .any, .no, .no, .no]) (fun _ kvs => [(lt, .dt kvs)]) (fun G => nx_inv [] ⟨⟨fun x hx => (by cases hx), fun s => .inl rfl, fun s hs => by simp at hs⟩, by simp⟩ (.same (.same (.same (.any (.any (.same (.same (.same .nil))))))))) ?_ ?_
  · rintro G i kvs f hfi ⟨h1, h2⟩
    have hfm := List.mem_of_getElem? hfi
    have hil := (List.getElem?_eq_some_iff.mp hfi).1
    refine wp_field (N := 100 * i) (hT.fnd f hfm).2 (hfe f hfm) (by omega) h2 h1 (fun x p y => hT.cor f hfm x p y) fun kvs' k1 k2 => nx_inv kvs' ⟨by rw [take_succ hfi, List.flatMap_append]; simpa using k2, by omega⟩ (.same (.same (.same (.any (.any (.same (.same (.same .nil))))))))
  · rintro kvs ⟨h1, h2⟩
    rw [List.take_length] at h1
    exact kk kvs h1
end
theorem rot_perm {t : List Nat} {a : Nat} : (rotTo t a).Perm t := by
  unfold rotTo
  have := List.perm_append_comm (l₁ := t.drop (t.idxOf a)) (l₂ := t.take (t.idxOf a))
  rwa [List.take_append_drop] at this
theorem emb_perm {B laid : List Tie} {fields : List (List Nat)} {T : Nat → List Nat} (hB : FT.Nrm 16 B) (hT : Emb T laid fields) (hl : ∀ t, t ∈ laid ↔ t ∈ B) (p : Nat) : (T p).Perm ((nearOf 16 B).getD p []) := by
  refine (List.perm_ext_iff_of_nodup (hT.nd p) ((nearOf_row 16 B hB.good p).imp fun h => Nat.ne_of_lt h)).mpr fun a => ?_
  rw [hT.mem, adjB hB, hl]
  refine ⟨fun h => h.2, fun h => ⟨fun e => ?_, h⟩⟩
  have := (hB.rng _ h).1
  unfold pairOf at this
  subst e
  dsimp only at this
  omega
theorem turn_perm {B laid : List Tie} {fields : List (List Nat)} {T : Nat → List Nat} (hB : FT.Nrm 16 B) (hT : Emb T laid fields) (hl : ∀ t, t ∈ laid ↔ t ∈ B) (p : Nat) : (turnL T (nearOf 16 B) p).Perm ((nearOf 16 B).getD p []) := rot_perm.trans (emb_perm hB hT hl p)
/-- the head stands ahead -/
theorem rot_head {t : List Nat} {a : Nat} (h : a ∈ t) : (rotTo t a)[0]? = some a := by
  obtain ⟨l, r, rfl⟩ := split_mem h
  by_cases c : a ∈ l
  · have hi := List.idxOf_lt_length_of_mem h
    unfold rotTo
    rw [List.getElem?_append_left (by rw [List.length_drop]; omega), List.getElem?_drop, Nat.add_zero, List.getElem?_eq_getElem hi, List.getElem_idxOf]
  · unfold rotTo; rw [idxOf_mid c, List.drop_left]; rfl
def dkT (f : Nat → List Nat) (ks : List Nat) : List (Key × Sd) := ks.map fun p : Nat => (.inl (p : Int), .d (dNs (f p)))
theorem look_dkT {f : Nat → List Nat} {x : Nat} : ∀ {ks : List Nat}, x ∉ ks → lookA (dkT f ks) (.inl (x : Int)) = none
  | [], _ => rfl
  | p :: ks, h => by
    show lookA ((.inl (p : Int), .d (dNs (f p))) :: dkT f ks) (.inl (x : Int)) = none
    rw [lookA_cons, if_neg (fun z => h (by injection z with z; have : p = x := by omega
                                           rw [this]; exact List.mem_cons_self))]
    exact look_dkT fun z => h (List.mem_cons_of_mem _ z)
section
variable {K : PySem.W.Frag} {C : Addr} {vs : List V} {H : Hp} {Q : VK} {E : XK}
theorem pure_turns_of (h : sp_turns_of K C vs H Q E) : t_turns_of K C { nx := fun _ H' => Q .non H', rt := Q } (L2.start N_turns_of vs) H := by
  refine enterN h fun F ss c hf ha hR hq => ?_
  obtain ⟨B, ks, dv, d, laid, fields, T, rfl, hB, hd, hks, hT, hl, hfl, hfe, rfl⟩ := hR
  refine ⟨_, ha, ?_⟩
  show WP ⟨F, H, []⟩ [.d (dNear fields), .v (.ref d), .no, .no, .no, .no, .no, .no] [] (t_turns_of K C) _
  have hkl := hd.len
  refine q_new evN_dnewT fun lt hlt => ?_
  have hlt : H lt = none := hlt
  have hdl : d ≠ lt := fun e => by have := hd.hd; rw [e, hlt] at this; cases this
  refine wp_fields hT hfl hfe fun kvs hL => ?_
  refine q_new evN_dnewK fun fd hfd => ?_
  have hfd : H fd = none := hfd
  have hdf : d ≠ fd := fun e => by have := hd.hd; rw [e, hfd] at this; cases this
  have hturn := fun p => turn_perm hB hT hl p
  have hTp := fun p => emb_perm hB hT hl p
  have hlater : ∀ p x, x ∈ T p → lookA kvs (kT (x, p)) = some (sN (FR.succT (T p) x)) := fun p x hx => by
    obtain ⟨h1, h2⟩ := (hT.mem p x).mp hx
    exact (hL.val (x, p)).resolve_left (hL.all (x, p) ((hT.dmem x p).mpr ⟨h1, by rw [pT_comm]; exact h2⟩))
  have hT2 := hT.nd
  have hgo : ∀ p, turnL T (nearOf 16 B) p = rotTo (T p) (((nearOf 16 B).getD p []).headD 0) := fun p => rfl
  generalize turnL T (nearOf 16 B) = tl at *
  refine q_lockB (α := Unit) (inv := fun _ => True) (Δf := fun _ => [.d (dNear fields), .v (.ref d), .v (.ref lt), .any, .any, .v (.ref fd), .any, .any]) (Cf := fun _ => [(fd, .dk (dkT tl ks)), (lt, .dt kvs)]) hd.hd hd.fd (by simp; exact ⟨hdf, hdl⟩) (by simp; exact ⟨hfd, hlt⟩) (fun a _ => ⟨fun s hs => ?_, fun c hc => ?_⟩) (fun F1 H1 od D1 hlk hend => ?_) fun a ha => ?_
  · simp only [List.mem_cons, List.not_mem_nil, or_false] at hs
    rcases hs with rfl | rfl | rfl | rfl | rfl | rfl | rfl | rfl <;> exact trivial
  · simp only [List.mem_cons, List.not_mem_nil, or_false] at hc
    rcases hc with rfl | rfl
    · intro x hx
      obtain ⟨y, _, rfl⟩ := List.mem_map.mp hx
      exact trivial
    · exact hL.pl
  · have hH1d : ∀ {B' : Base} {Δ' C'}, Ex F1 B'.F → RdS B' Δ' C' d dv := fun e σ' H' F' hs' => .inr ⟨od, hs'.fh _ _ (hs'.ff _ _ (e _ _ hlk.fd))⟩
    have hKv : KvA F1 dv (dictN (nearOf 16 B) ks) := KvA.mono hlk.ff hd.kv
    refine s_for1 (α := Unit) dN (as := ks) (Src.keys hlk.fd hd.keys (ev_var rfl rfl)) (fun _ _ => True) (fun _ _ => [.d (dNear fields), .v (.ref d), .v (.ref lt), .any, .any, .v (.ref fd), .any, .any]) (fun i _ => [(fd, .dk (dkT tl (ks.take i))), (lt, .dt kvs)]) (fun G => nx_inv () trivial) ?_ ?_
    · rintro G i _ p hp _
      have hpk := List.mem_of_getElem? hp
      have hpB := (hks p).mp hpk
      have hil := List.length_take_le' i ks
      have hpi : p ∉ ks.take i := fun z => by
        have hn := hd.nd
        have h1 := take_succ hp
        have h2 : (ks.take (i + 1)).Nodup := (List.take_sublist _ _).nodup hn
        rw [h1] at h2
        exact (List.nodup_append.mp h2).2.2 p z p (by simp) rfl
      obtain ⟨y, hy, hyp⟩ := pt_other hB hpB
      have hyn := (adjB hB).mpr hy
      have hrow := (hturn p).length_eq
      have hr40 := hd.ok.2
      obtain ⟨hd0, tl0, hnear⟩ : ∃ a l, (nearOf 16 B).getD p [] = a :: l := by
        cases q : (nearOf 16 B).getD p [] with
        | nil => rw [q] at hyn; cases hyn
        | cons a l => exact ⟨a, l, rfl⟩
      have hheadT : hd0 ∈ T p := (hTp p).mem_iff.mpr (by rw [hnear]; exact List.mem_cons_self)
      have hgp : tl p = rotTo (T p) hd0 := by rw [hgo, hnear]; rfl
      have hlen : (tl p).length = (T p).length := by rw [hgp]; exact rot_perm.length_eq
      have h0 : (tl p)[0]? = some hd0 := by rw [hgp]; exact rot_head hheadT
      have hpos : 0 < (tl p).length := (List.getElem?_eq_some_iff.mp h0).1
      have hget : ∀ k, k < (tl p).length → (tl p)[k]? = some ((tl p).getD k 0) := fun k hk => by
        rw [List.getD_eq_getElem?_getD, List.getElem?_eq_getElem hk]; rfl
      have hT16 : (tl p).length ≤ 16 := nodup_len ((hturn p).nodup_iff.mpr ((nearOf_row 16 B hB.good p).imp fun h => Nat.ne_of_lt h)) fun x hx => (mem_near hB.good ((hturn p).mem_iff.mp hx)).2.1
      refine q_new (c := .lst [sN hd0]) (evN_lst (ea_cons (atF (a := (nearOf 16 B).getD p []) (k := 0) (x := hd0) (f := dN) (ev_dgetB (d := d) (vs := dv) (kvs := dictN (nearOf 16 B) ks) (x := .inl (p : Int)) (hH1d (Ex.refl F1)) hKv (ev_var rfl rfl) (ev_var rfl rfl) (look_dictN hpk)) ev_int (by rw [hnear]; rfl)) ea_nil)) fun tc htc => ?_
      have htc : H1 tc = none := htc
      refine q_while (α := Nat) (fun k => k < (tl p).length) (fun k => (tl p).length - k) (fun _ => [.d (dNear fields), .v (.ref d), .v (.ref lt), .any, .any, .v (.ref fd), sN p, .v (.ref tc)]) (fun k => [(tc, .lst (((tl p).take (k + 1)).map sN)), (fd, .dk (dkT tl (ks.take i))), (lt, .dt kvs)]) (fun k => decide (k + 1 < (tl p).length)) ?_ ?_ ?_ ?_
      · refine nx_inv 0 hpos (hC := ?_)
        have : (tl p).take 1 = [hd0] := by have := take_succ h0; simpa using this
        rw [this]; rfl
      · intro k hk
        refine evT_eq (et_test (ev_op (ev_cb (ea_cons (ev_var rfl rfl) ea_nil) (rc_lenC (k := 0) rfl)) (ev_cb (ea_cons (ev_dgetB (d := d) (vs := dv) (kvs := dictN (nearOf 16 B) ks) (x := .inl (p : Int)) (hH1d (Ex.refl F1)) hKv (ev_var rfl rfl) (ev_var rfl rfl) (look_dictN hpk)) ea_nil) rc_lenL) rv_ib)) ?_
        rw [decide_eq_decide, List.length_map, List.length_map, List.length_take, ← hrow]; omega
      · intro k hk ht
        have ht : k + 1 < (tl p).length := of_decide_eq_true ht
        have hnext : FR.succT (T p) ((tl p).getD k 0) = (tl p).getD (k + 1) 0 := by
          rw [hgp]
          unfold rotTo
          exact rot_next (hT2 p) (Nat.le_of_lt (List.idxOf_lt_length_of_mem hheadT)) (by omega)
        have hkT : (tl p).getD k 0 ∈ T p := (rot_perm (t := T p) (a := hd0)).mem_iff.mp (by rw [← hgp]; exact List.mem_of_getElem? (hget k hk))
        refine s_app (k := 0) (s := sN ((tl p).getD (k + 1) 0)) rfl (ev_var rfl rfl) (ev_dgetT (k := 2) (x := kT ((tl p).getD k 0, p)) rfl (ev_var rfl rfl) (ev_tup2 (a := dN ((tl p).getD k 0)) (b := dN p) (ev_op (ev_var rfl rfl) (ev_un ev_int ru_i) (rv_xC 0 rfl (at_last ?_))) (ev_var rfl rfl)) (by rw [hlater p _ hkT, hnext])) (nx_inv (k + 1) ⟨ht, by omega⟩ (hC := ?_)) (by rw [List.length_map, List.length_take]; omega)
        · rw [List.length_map, List.length_take, List.getElem?_map, List.getElem?_take_of_lt (by omega), show min (k + 1) (tl p).length - 1 = k by omega, hget k hk]; rfl
        · have := take_succ (hget (k + 1) ht)
          rw [this, List.map_append]; rfl
      · intro k hk ht
        have ht : ¬ k + 1 < (tl p).length := of_decide_eq_false ht
        have e1 : (tl p).take (k + 1) = tl p := List.take_of_length_le (by omega)
        rw [e1, show (tl p).map sN = ((tl p).map dN).map Sd.d by rw [List.map_map]; rfl]
        refine wp_frzD (i := 7) rfl htc ?_
        refine s_dputK (k := 0) (x := .inl (p : Int)) (s := .d (dNs (tl p))) rfl (ev_var rfl rfl) (ev_var rfl rfl) (ev_var rfl rfl) (nx_inv () trivial (hC := ?_)) (by unfold dkT; rw [List.length_map]; omega)
        rw [putA_new _ (look_dkT hpi), take_succ hp]
        unfold dkT; rw [List.map_append]; rfl
    · intro _ _
      rw [List.take_length]
      exact hend () trivial
  · exact s_retN (k := 0) rfl (ev_var rfl rfl) hq (by simp; exact ⟨hfd, hlt⟩)
end
end DY

set_option Elab.async false
set_option linter.all false
set_option maxRecDepth 100000
set_option maxHeartbeats 1000000
set_option autoImplicit false
/-! drawing.py at work: fields_of -/
namespace DV
open PySem L2 FD FX FQ FI FM FN FB FW FK FU DA DB DC DD DW DX
open FZ hiding ev_lstM
open FR (gonD gon_some)
open Evl (Ex sz_of sz_lt)
/-! ### steps by place -/
theorem dl_len : ∀ l : List Nat, (dl l).length = l.length - 1
  | [] => rfl
  | [_] => rfl
  | a :: b :: r => by
    show (dl (b :: r)).length + 1 = _
    rw [dl_len (b :: r)]; rfl
theorem dl_get : ∀ {l : List Nat} {k : Nat}, k + 1 < l.length → (dl l)[k]? = some (l.getD k 0, l.getD (k + 1) 0)
  | a :: b :: r, 0, _ => rfl
  | a :: b :: r, k + 1, h => by
    show (dl (b :: r))[k]? = _
    rw [dl_get (l := b :: r) (by simpa using h)]; rfl
theorem pt_dl {x : Nat} : ∀ {l : List Nat}, 2 ≤ l.length → (Pt ((dl l).map pT) x ↔ x ∈ l)
  | a :: b :: r, h => by
    have e : ∀ T : List Tie, Pt (pT (a, b) :: T) x ↔ (x = a ∨ x = b) ∨ Pt T x := fun T => by
      unfold Pt pT pairOf
      constructor
      · rintro ⟨t, ht, h⟩
        rcases List.mem_cons.mp ht with rfl | ht
        · left; dsimp only at h; omega
        · exact .inr ⟨t, ht, h⟩
      · rintro (h | ⟨t, ht, h⟩)
        · exact ⟨_, List.mem_cons_self, by dsimp only; omega⟩
        · exact ⟨t, List.mem_cons_of_mem _ ht, h⟩
    show Pt (pT (a, b) :: (dl (b :: r)).map pT) x ↔ _
    rw [e]
    cases r with
    | nil =>
      have : ¬ Pt ((dl [b]).map pT) x := fun ⟨t, ht, _⟩ => by cases ht
      simp [this]
    | cons c r =>
      rw [pt_dl (l := b :: c :: r) (by simp)]
      simp only [List.mem_cons]
      constructor
      · rintro ((h | h) | h)
        · exact .inl h
        · exact .inr (.inl h)
        · exact .inr h
      · rintro (h | h)
        · exact .inl (.inl h)
        · exact .inr h
theorem pt_app {l m : List Tie} {x : Nat} : Pt (l ++ m) x ↔ Pt l x ∨ Pt m x := by
  unfold Pt
  constructor
  · rintro ⟨t, ht, h⟩
    rcases List.mem_append.mp ht with ht | ht
    · exact .inl ⟨t, ht, h⟩
    · exact .inr ⟨t, ht, h⟩
  · rintro (⟨t, ht, h⟩ | ⟨t, ht, h⟩)
    · exact ⟨t, List.mem_append_left _ ht, h⟩
    · exact ⟨t, List.mem_append_right _ ht, h⟩
theorem not_take {α : Type} {l : List α} (hn : l.Nodup) {k : Nat} {x : α} (h : l[k]? = some x) : x ∉ l.take k := fun z => by
  have h1 := FD.take_succ h
  have h2 : (l.take (k + 1)).Nodup := (List.take_sublist _ _).nodup hn
  rw [h1] at h2
  exact (List.nodup_append.mp h2).2.2 x z x (by simp) rfl
theorem getD_some {l : List Nat} {k : Nat} (h : k < l.length) : l[k]? = some (l.getD k 0) := by
  rw [List.getD_eq_getElem?_getD, List.getElem?_eq_getElem h]; rfl
theorem map_erase {α β : Type} (f : α → β) : ∀ (l : List α) (i : Nat), (l.map f).eraseIdx i = (l.eraseIdx i).map f
  | [], _ => rfl
  | _ :: _, 0 => rfl
  | a :: l, i + 1 => by
    show f a :: (l.map f).eraseIdx i = f a :: (l.eraseIdx i).map f
    rw [map_erase f l i]
/-- the ring's ties by place -/
theorem ring_get {R : List Nat} {k : Nat} (h : k < R.length) : (ringT R)[k]? = some (pairOf (R.getD ((k + R.length - 1) % R.length) 0) (R.getD k 0)) := by
  unfold ringT
  rw [List.getElem?_map, dl_get (by rw [List.length_cons]; omega)]
  show some (pairOf _ _) = _
  congr 2
  cases k with
  | zero =>
    show R.getLastD 0 = _
    rw [show 0 + R.length - 1 = R.length - 1 by omega, Nat.mod_eq_of_lt (by omega)]
    obtain ⟨l', z, e⟩ := last_split (t := R) (by intro z; subst z; simp at h)
    rw [e, lastD_snoc, List.getD_eq_getElem?_getD, List.length_append, List.length_singleton, Nat.add_sub_cancel, List.getElem?_append_right (Nat.le_refl _), Nat.sub_self]; rfl
  | succ k =>
    rw [show k + 1 + R.length - 1 = k + R.length by omega, Nat.add_mod_right, Nat.mod_eq_of_lt (by omega)]; rfl
theorem ring_len (R : List Nat) : (ringT R).length = R.length := by
  unfold ringT; rw [List.length_map, dl_len]; simp
theorem pt_ring {R : List Nat} (h : 2 ≤ R.length) {x : Nat} : Pt (ringT R) x ↔ x ∈ R := by
  unfold ringT
  rw [pt_dl (by rw [List.length_cons]; omega), List.mem_cons]
  refine ⟨fun h1 => h1.elim (fun e => ?_) id, .inr⟩
  cases R with
  | nil => simp at h
  | cons a R =>
    rw [e, List.getLastD_cons]
    rw [List.getLastD_eq_getLast?]
    cases q : R.getLast? with
    | none => simp
    | some y => exact List.mem_cons_of_mem _ (List.mem_of_getLast? q)
/-- bounds -/
theorem both_len (T : List Tie) : (bothT T).length = 2 * T.length := by
  induction T with
  | nil => rfl
  | cons t T ih => show ((t.1, t.2) :: (t.2, t.1) :: bothT T).length = _; rw [List.length_cons, List.length_cons, ih, List.length_cons]; omega
theorem sub_len {B laid : List Tie} (hn : laid.Nodup) (h : ∀ t ∈ laid, t ∈ B) : laid.length ≤ B.length := List.Nodup.length_le_of_subset hn h
theorem emb_small {B laid : List Tie} {T : Nat → List Nat} {fields : List (List Nat)} (hB : FT.Nrm 16 B) (hBl : B.length ≤ 40) (hT : Emb T laid fields) (hn : laid.Nodup) (hs : ∀ t ∈ laid, t ∈ B) : FldOk fields := by
  have hl := sub_len hn hs
  refine ⟨?_, fun f hf => ?_⟩
  · have h1 : (fields.flatMap rds).length ≤ (bothT laid).length := List.Nodup.length_le_of_subset hT.dnd fun d hd => by
      obtain ⟨h1, h2⟩ := (hT.dmem d.1 d.2).mp hd
      unfold bothT
      refine List.mem_flatMap.mpr ⟨_, h2, ?_⟩
      unfold pairOf
      simp only [List.mem_cons, Prod.ext_iff, List.not_mem_nil, or_false]
      omega
    rw [both_len] at h1
    have h2 : ∀ fs : List (List Nat), (∀ f ∈ fs, 2 ≤ f.length) → fs.length ≤ (fs.flatMap rds).length := fun fs => by
      induction fs with
      | nil => intro _; exact Nat.zero_le _
      | cons f fs ih =>
        intro h
        rw [List.flatMap_cons, List.length_append, List.length_cons]
        have h3 := ih fun g hg => h g (List.mem_cons_of_mem _ hg)
        have h4 : 1 ≤ (rds f).length := by
          have h5 := h f List.mem_cons_self
          have := rds_at h5 (k := 0) (by omega)
          exact List.length_pos_of_mem this
        omega
    have := h2 fields fun f hf => (hT.fnd f hf).2
    omega
  · have := nodup_len (n := 16) (hT.fnd f hf).1 fun x hx => pt_lt hB (pt_sub hs (emb_placed hT hf hx))
    omega
theorem near_facts {B : List Tie} (hB : FT.Nrm 16 B) : (keysT B).Nodup ∧ (∀ p ∈ keysT B, p < (nearOf 16 B).length ∧ ∀ x ∈ (nearOf 16 B).getD p [], x ∈ keysT B) ∧ NearOk (nearOf 16 B) := by
  refine ⟨(keysD_ok _).1, fun p hp => ⟨?_, fun x hx => ?_⟩, nearOf_ok hB.good (Nat.le_refl _)⟩
  · rw [nearOf_len]; exact pt_lt hB (mem_keysT.mp hp)
  · exact mem_keysT.mpr (pt_pair ((adjB hB).mp hx)).2
theorem inner_pt {B laid : List Tie} (hB : FT.Nrm 16 B) {ends inner : List Nat} (h : Piece B laid ends inner) : ∀ x ∈ inner, Pt B x := by
  rcases h with ⟨rfl, _⟩ | ⟨p, hp, _, hin, _⟩
  · intro x hx; cases hx
  · intro x hx
    cases (hin x).mp hx with
    | base => exact hp
    | step _ h3 _ => exact (pt_pair ((adjB hB).mp h3)).2
theorem way_small {B laid : List Tie} (hB : FT.Nrm 16 B) (hs : ∀ t ∈ laid, t ∈ B) {ends inner way : List Nat} (h : Piece B laid ends inner) (he : ∀ e ∈ ends, Pt laid e) {s : Nat} (h0 : Pt laid s) (hw : IsWay (N16 B) s ends.tail inner way) : way.length ≤ 16 ∧ 2 ≤ way.length := by
  obtain ⟨e, W, h1, rfl, h2, h3, _⟩ := hw
  refine ⟨nodup_len h2 fun x hx => ?_, by unfold wayL; simp⟩
  have : x = s ∨ x ∈ W ∨ x = e := by unfold wayL at hx; simpa using hx
  rcases this with rfl | h | rfl
  · exact pt_lt hB (pt_sub hs h0)
  · exact pt_lt hB (inner_pt hB ‹Piece B laid ends inner› x (h3 x h))
  · exact pt_lt hB (pt_sub hs (he _ (List.mem_of_mem_tail h1)))
/-! ### rules -/
section
variable {B : Base} {Δ : List Sd} {C : Cs} {σ : L2.St} {H F : Hp} {ta tb te : TE} {tu tz : TS} {D : Ends} {K : PySem.W.Frag} {s : Sd}
theorem rc_lenDT {k : Nat} {l : Addr} {kvs : List (List Key × Sd)} (hc : C[k]? = some (l, .dt kvs)) : RC B Δ C rLenT [.v (.ref l)] (.d (.int (kvs.length : Nat))) := fun σ H F hs xs w Q q => by
  cases w with | cons w w' =>
  cases w'
  cases w
  obtain ⟨vs, ho, r⟩ := cell_dt hs hc
  exact ⟨l, vs, rfl, ho, by rw [r.length]; exact q.now hs (.int _)⟩
theorem rv_catC {k : Nat} {l : Addr} {as bs : List PyData} (hc : C[k]? = some (l, .lst (as.map Sd.d))) (hz : as.length + bs.length ≤ 100000) : RVN B Δ C rCat (.v (.ref l)) (.d (.list bs)) (.lst ((as ++ bs).map Sd.d)) := fun σ H F hs x y h1 h2 Q q => by
  cases h1
  obtain ⟨_, o, ho, xs, rfl, r⟩ := hs.cell hc
  obtain ⟨p', xs', rfl, e', r'⟩ := Rep.lst_inv h2
  refine ⟨l, p', xs, xs', rfl, rfl, ho, hs.fh _ _ e', sz_of (by rw [r.rep.length, r'.length]; exact hz), q.made hs ⟨_, rfl, (r.rep.append r').sl⟩⟩
theorem ev_callM {R : Hp → Hp → List Sd → Sd → Prop} {E : XK} {ta : TA} {ss : List Sd} (h : EvA B Δ C ta ss) (hR : ∀ σ H F vs, FD.St B Δ C σ H F → SlA F vs ss → ∃ ss' s', SlA F vs ss' ∧ R F H ss' s' ∧ ∀ F' v, SlV F' v s' → SlV F' v s) : Ev B Δ C (tCall (SpD R) [] E ta) s := fun σ H F hs Q q =>
  h σ H F hs _ fun vs F1 H1 h1 e1 e1' w1 => by
    obtain ⟨ss', s', a1, a2, a3⟩ := hR σ H1 F1 vs h1 w1
    exact ⟨F1, ss', s', h1.fh, by rw [List.append_nil]; exact a1, a2, fun v F' H' x w => q v F' H' (h1.by x) (e1.trans x.ff) (e1'.trans x.hh) (a3 F' v w)⟩
theorem wp_drop1 {x y : Addr × Cd} (hy : B.H y.1 = none) (h : WP B Δ (x :: C) tu D) : WP B Δ (x :: y :: C) tu D := fun σ H ⟨F, hs⟩ => h σ H ⟨F, (FD.St.perm hs (.swap _ _ _)).dropC hy⟩
theorem dictB_of {k : Nat} {nd : Addr} {near : List (List Nat)} {ks : List Nat} (hs : FD.St B Δ C σ H F) (hc : C[k]? = some (nd, .dk (dictN near ks))) (h : ks.Nodup ∧ (∀ p ∈ ks, p < near.length ∧ ∀ x ∈ near.getD p [], x ∈ ks) ∧ NearOk near) : ∃ vs, DictB F H nd near ks vs := by
  obtain ⟨vs, ho, r⟩ := cell_dk hs hc
  exact ⟨vs, ho, (hs.cell hc).1, r, h.1, h.2.1, h.2.2⟩
end
/-! ### fields_of -/
def FldsP (B : List Tie) (d : PyData) : Prop := (d = .none ∧ ∃ fields laid ends inner, Run B fields laid ∧ Piece B laid ends inner ∧ fits fields ends = []) ∨ (∃ fields laid, d = dNear fields ∧ Run B fields laid ∧ ∀ t, t ∈ laid ↔ t ∈ B)
def R_fields_of : Hp → Hp → List Sd → Sd → Prop := fun _ _ ss s => ∃ B, ss = [.d (dTies B)] ∧ Blk B ∧ B.length ≤ 40 ∧ 2 ≤ B.length ∧ s = .p (DM (FldsP B))
def sp_fields_of (K : PySem.W.Frag) (C : Addr) : Sp := SpD R_fields_of
def N_fields_of : List Str := ["ties", "near", "ring", "fields", "placed", "laid", "at", "way", "field", "ends", "inner", "places"]
def t_fields_of (K : PySem.W.Frag) (C : Addr) : TS :=
  (tSeq (tAsg (tCall (sp_near_of K C) [] E0 (tCons (tVar 0) tNil)) (gName 1))
  (tSeq (tAsg (tCall (sp_first_ring K C) [] E0 (tCons (tVar 1) (tCons (tOp (rIx K) (tVar 0) (tC (.int 0))) tNil))) (gName 2))
  (tSeq (tAsg (tLst (tCons (tVar 2) (tCons (FV.tLstRev K (tVar 2)) tNil))) (gName 3))
  (tSeq (tAsg tDNewK (gName 4))
  (tSeq (tAsg tDNewT (gName 5))
  (tSeq (tFor (iRng1 (tCons (tCB (xLen K) (tCons (tVar 2) tNil)) tNil)) (gName 6) (tSeq (sDPut (tVar 4) (tOp (rIx K) (tVar 2) (tVar 6)) (tC (.bl true)))
  (sDPut (tVar 5) (tCall (sp_pair_of K C) [] E0 (tCons (tOp (rIx K) (tVar 2) (tOp (rI0 fun i j => .int (i - j)) (tVar 6) (tC (.int 1)))) (tCons (tOp (rIx K) (tVar 2) (tVar 6)) tNil))) (tC (.bl true)))))
  (tSeq (tWhile (tTest (tOp (rI0 fun i j => .bl (decide (i < j))) (tCB rLenT (tCons (tVar 5) tNil)) (tCB (xLen K) (tCons (tVar 0) tNil)))) (tSeq (tAsg (tCall (sp_chosen K C) [] E0 (tCons (tVar 3) (tCons (tCall (sp_pieces_left K C) [] E0 (tCons (tVar 1) (tCons (tVar 0) (tCons (tVar 4) (tCons (tVar 5) tNil))))) tNil))) (gTup K 3 (gCons (gName 9) (gCons (gName 10) (gCons (gName 11) gNil)))))
  (tSeq (tIfS (tTest (tOp (rEqD K) (tVar 11) (tLst tNil))) (tRet (tC .non)) tNext)
  (tSeq (tAsg (tCall (sp_way_in K C) [] E0 (tCons (tVar 1) (tCons (tOp (rIx K) (tVar 9) (tC (.int 0))) (tCons (tSl (rSlL K) (tVar 9) (tPart (tC (.int 1))) tNoPart) (tCons (tVar 10) tNil))))) (gName 7))
  (tSeq (tAsg (tBM K "list" rPopAt (tVar 3) (tCons (tOp (rIx K) (tVar 11) (tC (.int 0))) tNil)) (gName 8))
  (tSeq (tAsg (tOp rCat (tVar 3) (tCall (sp_parted K C) [] E0 (tCons (tVar 8) (tCons (tVar 7) tNil)))) (gName 3))
  (tFor (iRng2 (tCons (tC (.int 1)) (tCons (tCB (xLen K) (tCons (tVar 7) tNil)) tNil))) (gName 6) (tSeq (sDPut (tVar 4) (tOp (rIx K) (tVar 7) (tVar 6)) (tC (.bl true)))
  (sDPut (tVar 5) (tCall (sp_pair_of K C) [] E0 (tCons (tOp (rIx K) (tVar 7) (tOp (rI0 fun i j => .int (i - j)) (tVar 6) (tC (.int 1)))) (tCons (tOp (rIx K) (tVar 7) (tVar 6)) tNil))) (tC (.bl true)))))))))))
  (tRet (tVar 3)))))))))
structure Fst where
  fs : List (List Nat)
  ld : List Tie
  P : List Nat
  fc : Addr
section
variable {K : PySem.W.Frag} {C : Addr} {vs : List V} {H : Hp} {Q : VK} {E : XK}
theorem pure_fields_of (h : sp_fields_of K C vs H Q E) : t_fields_of K C { nx := fun _ H' => Q .non H', rt := Q } (L2.start N_fields_of vs) H := by
  refine enterD h fun F ss s hf ha hR hq => ?_
  obtain ⟨B, rfl, hB, hBl, hB2, rfl⟩ := hR
  refine ⟨_, ha, ?_⟩
  show WP ⟨F, H, []⟩ [.d (dTies B), .no, .no, .no, .no, .no, .no, .no, .no, .no, .no, .no] [] (t_fields_of K C) _
  have hnf := near_facts hB.nrm
  have hks : ∀ x, x ∈ keysT B ↔ Pt B x := fun x => mem_keysT
  obtain ⟨t0, B0, hB0⟩ : ∃ t B', B = t :: B' := by
    cases B with
    | nil => simp at hB2
    | cons t B' => exact ⟨t, B', rfl⟩
  have ht0 : t0 ∈ B := by rw [hB0]; exact List.mem_cons_self
  have hlt0 := (hB.nrm.rng t0 ht0).1
  obtain ⟨w0, hw0, hin0⟩ := ring_way hB ht0 hB2 (inner := (keysT B).filter fun p => !decide (p = t0.1 ∨ p = t0.2)) (fun x => by
    rw [List.mem_filter, hks]; simp)
  refine q_new (evN_call (ea_cons (ev_var rfl rfl) ea_nil) fun _ _ _ _ => ⟨B, rfl, hB.nrm, hBl, rfl⟩) fun nd hnd => ?_
  have hnd : H nd = none := hnd
  generalize hKs : keysT B = ks at *
  refine q_tgtX (js := [2]) (fun way => IsWay (N16 B) t0.1 [t0.2] (ks.filter fun p => !decide (p = t0.1 ∨ p = t0.2)) way) (fun w => dNs w) (fun w Δ => Δ.set 2 (.d (dNs w))) (m := WayM (nearOf 16 B) t0.1 [t0.2] (ks.filter fun p => !decide (p = t0.1 ∨ p = t0.2))) (ev_call (ea_cons (ev_var rfl rfl) (ea_cons (atF (f := dTie) (a := B) (k := 0) (x := t0) (ev_var rfl rfl) ev_int (by rw [hB0]; rfl)) ea_nil)) fun σ' H' F' hs' => ?_) ?_ (fun _ => tg_name) fun ring hring => ?_
  · obtain ⟨dv, hd⟩ := dictB_of hs' (k := 0) rfl hnf
    exact ⟨nearOf 16 B, ks, dv, nd, t0, rfl, hd, (hks _).mpr ⟨t0, ht0, .inl rfl⟩, by omega, rfl⟩
  · rintro F1 v ⟨d, ⟨way, rfl, h1⟩, r⟩
    exact ⟨way, h1.resolve_right fun z => z.2 ⟨_, hw0⟩, r⟩
  obtain ⟨e, W, he, rfl, hrn, hrW, hrw, hrne⟩ := hring
  have he : e = t0.2 := by simpa using he
  subst he
  have hrun0 : Run B [wayL t0.1 t0.2 W, (wayL t0.1 t0.2 W).reverse] (ringT (wayL t0.1 t0.2 W)) := .start (by rw [show pairOf t0.1 t0.2 = t0 from (tie_pair hB.nrm ht0).symm]; exact ht0) (hrne hin0) hrn hrw
  have hr16 : (wayL t0.1 t0.2 W).length ≤ 16 := nodup_len hrn fun x hx => by
    have : x = t0.1 ∨ x ∈ W ∨ x = t0.2 := by unfold wayL at hx; simpa using hx
    rcases this with rfl | h | rfl
    · exact pt_lt hB.nrm ⟨t0, ht0, .inl rfl⟩
    · exact pt_lt hB.nrm ((hks x).mp (List.mem_filter.mp (hrW x h)).1)
    · exact pt_lt hB.nrm ⟨t0, ht0, .inr rfl⟩
  have hr2 : 2 ≤ (wayL t0.1 t0.2 W).length := by unfold wayL; simp
  generalize wayL t0.1 t0.2 W = ring at hrun0 hr16 hr2 hrn hrw
  have hrT := (run_ok hB.nrm hrun0).nd
  refine q_new (c := .lst (([ring, ring.reverse].map dNs).map Sd.d)) (evN_lst (ea_cons (ev_var rfl rfl) (ea_cons (revF (ev_var rfl rfl)) ea_nil))) fun fc0 hfc0 => ?_
  have hfc0 : H fc0 = none := hfc0
  refine q_new evN_dnewK fun pd hpd => ?_
  have hpd : H pd = none := hpd
  refine q_new evN_dnewT fun ld hld => ?_
  have hld : H ld = none := hld
  refine q_for1 (α := Unit) dN (Src.rN (n := ring.length) (ea_cons (ev_eq (ev_cb (ea_cons (ev_var rfl rfl) ea_nil) rc_lenL) (by rw [List.length_map])) ea_nil)) (fun _ _ => True) (fun _ _ => [.d (dTies B), .v (.ref nd), .d (dNs ring), .v (.ref fc0), .v (.ref pd), .v (.ref ld), .any, .no, .no, .no, .no, .no]) (fun i _ => [(ld, .dt (gonD ((ringT ring).take i))), (pd, .dk (dkB (ring.take i))), (fc0, .lst (([ring, ring.reverse].map dNs).map Sd.d)), (nd, .dk (dictN (nearOf 16 B) ks))]) (fun G => nx_inv () trivial) ?_ ?_
  · intro G i _ k hk _
    obtain ⟨rfl, hkl⟩ := FK.range_get hk
    have hx := getD_some hkl
    have hrg := ring_get hkl
    have hrl := ring_len ring
    refine q_dputK (k := 1) (x := .inl ((ring.getD k 0 : Nat) : Int)) (s := .d (.bool true)) rfl ev_bl (ev_var rfl rfl) (ev_op (ev_var rfl rfl) (ev_var rfl rfl) (rv_xL (atI_mapN dN hx))) ?_ (by unfold dkB; rw [List.length_map, List.length_take]; omega)
    rw [put_dkB, show addK (ring.take k) (ring.getD k 0) = ring.take (k + 1) by unfold addK; rw [if_neg (not_take hrn hx), take_succ hx]]
    refine s_dputT (k := 0) (x := kT (pairOf (ring.getD ((k + ring.length - 1) % ring.length) 0) (ring.getD k 0))) (s := .d (.bool true)) rfl ev_bl (ev_var rfl rfl) (ev_call (ea_cons (ev_op (ev_var rfl rfl) (ev_op (ev_var rfl rfl) ev_int rv_ii) (rv_xL (atI_map dN (DY.at_back (c := 1) hkl (by omega) (by decide))))) (ea_cons (ev_op (ev_var rfl rfl) (ev_var rfl rfl) (rv_xL (atI_mapN dN hx))) ea_nil)) fun _ _ _ _ => ⟨_, _, rfl, rfl⟩) (nx_inv () trivial (hC := ?_)) (by unfold gonD dictT; rw [List.length_map, List.length_take]; omega)
    have := putT_new (f := fun _ => Sd.d (.bool true)) (not_take hrT hrg)
    unfold gonD
    rw [take_succ hrg, ← this]; rfl
  intro _ _
  rw [List.length_range, List.take_length, List.take_of_length_le (Nat.le_of_eq (ring_len ring))]
  refine q_while (α := Fst) (fun a => Run B a.fs a.ld ∧ (∀ x, x ∈ a.P ↔ Pt a.ld x) ∧ a.P.Nodup ∧ H a.fc = none) (fun a => B.length - a.ld.length) (fun a => [.d (dTies B), .v (.ref nd), .any, .v (.ref a.fc), .v (.ref pd), .v (.ref ld), .any, .any, .any, .any, .any, .any]) (fun a => [(a.fc, .lst ((a.fs.map dNs).map Sd.d)), (ld, .dt (gonD a.ld)), (pd, .dk (dkB a.P)), (nd, .dk (dictN (nearOf 16 B) ks))]) (fun a => decide (a.ld.length < B.length)) ?_ ?_ ?_ ?_
  · refine fun σ Hh ⟨F1, hs⟩ => nx_inv (B := ⟨F, H, []⟩) (Δ := [.d (dTies B), .v (.ref nd), .d (dNs ring), .v (.ref fc0), .v (.ref pd), .v (.ref ld), .any, .no, .no, .no, .no, .no]) (C := [(fc0, .lst (([ring, ring.reverse].map dNs).map Sd.d)), (ld, .dt (gonD (ringT ring))), (pd, .dk (dkB ring)), (nd, .dk (dictN (nearOf 16 B) ks))]) (⟨[ring, ring.reverse], ringT ring, ring, fc0⟩ : Fst) ⟨hrun0, fun x => (pt_ring hr2).symm, hrn, hfc0⟩ (.same (.same (.any (.same (.same (.same (.any (.any (.any (.any (.any (.any .nil)))))))))))) rfl σ Hh ⟨F1, FD.St.perm hs ?_⟩
    refine (List.Perm.cons _ (List.Perm.swap _ _ _)).trans (List.Perm.swap _ _ _)
  · rintro ⟨fs, laid, P, fc⟩ _
    refine evT_eq (et_test (ev_op (ev_cb (ea_cons (ev_var rfl rfl) ea_nil) (rc_lenDT (k := 1) rfl)) (ev_cb (ea_cons (ev_var rfl rfl) ea_nil) rc_lenL) rv_ib)) ?_
    rw [decide_eq_decide, List.length_map]; unfold gonD dictT; rw [List.length_map]; dsimp only; omega
  · rintro ⟨fields, laid, P, fc⟩ ⟨hr, hP, hPn, hfc⟩ ht
    have ht : laid.length < B.length := of_decide_eq_true ht
    dsimp only at hr hP hPn hfc ⊢
    obtain ⟨⟨T, hT⟩, hsub, hnd', htwo⟩ := run_ok hB.nrm hr
    have hfo := emb_small hB.nrm hBl hT hnd' hsub
    have hPl : P.length ≤ 16 := nodup_len hPn fun x hx => pt_lt hB.nrm (pt_sub hsub ((hP x).mp hx))
    have hP' : ∀ x, decide (x ∈ P) = pl laid x := fun x => by
      rw [Bool.eq_iff_iff, pl_iff, decide_eq_true_eq, hP]
    have hpdnd : ∀ {C' : Cs} {σ' H' F'}, FD.St ⟨F, H, []⟩ [.d (dTies B), .v (.ref nd), .any, .v (.ref fc), .v (.ref pd), .v (.ref ld), .any, .any, .any, .any, .any, .any] [(fc, .lst ((fields.map dNs).map Sd.d)), (ld, .dt (gonD laid)), (pd, .dk (dkB P)), (nd, .dk (dictN (nearOf 16 B) ks))] σ' H' F' → pd ≠ nd := fun {C' σ' H' F'} hs e => by
      have := hs.nd
      simp only [List.map_cons, List.map_nil, List.nodup_cons, List.mem_cons] at this
      exact this.2.2.1 (.inl e)
    refine q_tgtX (js := [9, 10, 11]) (fun p : List Nat × List Nat => Piece B laid p.1 p.2 ∧ ∀ e i, Piece B laid e i → (fits fields p.1).length ≤ (fits fields e).length) (fun p => .tuple [dNs p.1, dNs p.2, dNs (fits fields p.1)]) (fun p Δ => ((Δ.set 9 (.d (dNs p.1))).set 10 (.d (dNs p.2))).set 11 (.d (dNs (fits fields p.1))))
      (m := DM fun d => ∃ p : List Nat × List Nat, d = .tuple [dNs p.1, dNs p.2, dNs (fits fields p.1)] ∧ Piece B laid p.1 p.2 ∧ ∀ e i, Piece B laid e i → (fits fields p.1).length ≤ (fits fields e).length)
      (ev_callM (ss := [.v (.ref fc), .p (PcsM B laid)]) (ea_cons (ev_var rfl rfl) (ea_cons (ev_call (s := .p (PcsM B laid)) (ea_cons (ev_var rfl rfl) (ea_cons (ev_var rfl rfl) (ea_cons (ev_var rfl rfl) (ea_cons (ev_var rfl rfl) ea_nil)))) fun σ' H' F' hs' => ?_) ea_nil)) fun σ' H' F' vs' hs' w => ?_) ?_ (fun _ => tg_tup3) fun p hp => ?_
    · obtain ⟨dv, hd⟩ := dictB_of hs' (k := 3) rfl hnf
      obtain ⟨pvs, hpv, rp⟩ := cell_dk hs' (k := 2) rfl
      obtain ⟨lvs, hlv, rl⟩ := cell_dt hs' (k := 1) rfl
      exact ⟨B, ks, dv, nd, laid, pd, pvs, ld, lvs, rfl, hB.nrm, hBl, hd, hks, hpv, hpdnd (C' := []) hs', fun x => by rw [rp.isSome, look_dkB, hP'], hlv, fun t => by rw [rl.isSome, gon_some], rfl⟩
    · cases w with | cons w1 w2 =>
      cases w2 with | cons w2 w3 =>
      cases w3
      obtain ⟨d, ⟨found, rfl, f1, f2, f3⟩, r⟩ := w2
      obtain ⟨_, o, ho, xs, rfl, rx⟩ := hs'.cell (k := 0) rfl
      refine ⟨[.v (.ref fc), .d (dPcs found)], .p (BestM fields found), .cons w1 (.cons r .nil), ⟨fields, .v (.ref fc), found, rfl, ⟨fc, xs, rfl, ho, rx.rep⟩, hfo, found_ne hB hsub ht f2, by omega, fun p hp => ?_, rfl⟩, ?_⟩
      · have hpe := piece_ends hB hsub htwo (f1 p hp)
        have := nodup_len (n := 16) hpe.2.1 fun x hx => pt_lt hB.nrm (pt_sub hsub (hpe.2.2 x hx))
        omega
      · rintro F2 v ⟨d, ⟨p, hp, rfl, hmin⟩, r2⟩
        refine ⟨_, ⟨p, rfl, f1 p hp, fun e i hei => ?_⟩, r2⟩
        obtain ⟨q, hq1, hq2⟩ := f2 e i hei
        have := hmin q hq1
        rw [fits_congr hq2] at this; exact this
    · rintro F1 v ⟨d, ⟨p, rfl, h1, h2⟩, r⟩
      exact ⟨p, ⟨h1, h2⟩, r⟩
    obtain ⟨ends, inner⟩ := p
    obtain ⟨hpc, hmin⟩ := hp
    dsimp only at hpc hmin ⊢
    obtain ⟨hpe1, hpe2, hpe3⟩ := piece_ends hB hsub htwo hpc
    refine q_when (b := decide (fits fields ends = [])) (et_test (ev_op (ev_var rfl rfl) ev_lst0 (rv_eqG (f := dNs) (a := fits fields ends) (b := []) faith_ns (sh_ns _) (sh_ns [])))) (fun c => ?_) (fun c => ?_)
    · exact s_ret (s := .p (DM (FldsP B))) (ev_dm (d := .none) ev_non (.inl ⟨rfl, fields, laid, ends, inner, hr, hpc, of_decide_eq_true c⟩)) hq (by simp; exact ⟨hfc, hld, hpd, hnd⟩)
    · have c : fits fields ends ≠ [] := of_decide_eq_false c
      obtain ⟨e0, es, rfl⟩ : ∃ e0 es, ends = e0 :: es := by
        cases ends with
        | nil => simp at hpe1
        | cons e0 es => exact ⟨e0, es, rfl⟩
      obtain ⟨i0, is, hfit⟩ : ∃ i is, fits fields (e0 :: es) = i :: is := by
        cases q : fits fields (e0 :: es) with
        | nil => exact absurd q c
        | cons i is => exact ⟨i, is, rfl⟩
      have hi0 : i0 ∈ fits fields (e0 :: es) := by rw [hfit]; exact List.mem_cons_self
      obtain ⟨hil, hie⟩ := mem_fits.mp hi0
      obtain ⟨w1, hw1⟩ := piece_way hB hsub htwo hpc
      have he0 : Pt laid e0 := hpe3 e0 List.mem_cons_self
      refine q_tgtX (js := [7]) (fun way => IsWay (N16 B) e0 es inner way) (fun w => dNs w) (fun w Δ => Δ.set 7 (.d (dNs w))) (m := WayM (nearOf 16 B) e0 es inner) (ev_call (ea_cons (ev_var rfl rfl) (ea_cons (atF (f := dN) (a := e0 :: es) (k := 0) (x := e0) (ev_var rfl rfl) ev_int rfl) (ea_cons (cutR (f := dN) (a := e0 :: es) (k := 1) (ev_var rfl rfl) ev_int) (ea_cons (ev_var rfl rfl) ea_nil)))) fun σ' H' F' hs' => ?_) ?_ (fun _ => tg_name) fun way hway => ?_
      · obtain ⟨dv, hd⟩ := dictB_of hs' (k := 3) rfl hnf
        refine ⟨nearOf 16 B, ks, e0, es, inner, nd, rfl, hd.dict, hnf.2.2, (hks _).mpr (pt_sub hsub he0), fun x hx => (hks _).mpr (inner_pt hB.nrm hpc x hx), fun z => inner_new hpc _ z he0, (List.nodup_cons.mp hpe2).1, fun g hg z => inner_new hpc _ z (hpe3 g (List.mem_cons_of_mem _ hg)), rfl⟩
      · rintro F1 v ⟨d, ⟨way, rfl, h1⟩, r⟩
        exact ⟨way, h1.resolve_right fun z => z.2 ⟨_, hw1⟩, r⟩
      have hws := way_small hB.nrm hsub hpc hpe3 he0 (way := way) hway
      have hnext : Run B (fields.eraseIdx i0 ++ partedL (fields.getD i0 []) way) (laid ++ (dl way).map pT) := .step hr hpc hmin hway hi0
      have hnn := (run_ok hB.nrm hnext).nd
      have hwn : way.Nodup := by obtain ⟨_, _, _, _, h, _⟩ := hway; exact h
      have hw0f : way.headD 0 ∈ fields.getD i0 [] ∧ way.getLastD 0 ∈ fields.getD i0 [] ∧ way.headD 0 = e0 := by
        obtain ⟨e, W, he, rfl, _⟩ := hway
        exact ⟨hie e0 List.mem_cons_self, by rw [show (wayL e0 e W).getLastD 0 = e from lastD_snoc (e0 :: W) e]; exact hie e (List.mem_cons_of_mem _ he), rfl⟩
      refine q_popAsg (k := 0) (x := 8) (j := i0) (s := .d (dNs (fields.getD i0 []))) rfl (ev_var rfl rfl) (atF (f := dN) (a := fits fields (e0 :: es)) (k := 0) (x := i0) (ev_var rfl rfl) ev_int (by rw [hfit]; rfl)) rfl (by rw [List.getElem?_map, List.getElem?_map, List.getD_eq_getElem?_getD, List.getElem?_eq_getElem hil]; rfl) (by rw [List.length_map, List.length_map]; have := hfo.1; omega) ?_
      rw [map_erase, map_erase]
      have hf100 : (fields.getD i0 []).length ≤ 100 := hfo.2 _ (by rw [List.getD_eq_getElem?_getD, List.getElem?_eq_getElem hil]; exact List.getElem_mem _)
      refine q_new (evN_op (ev_var rfl rfl) (ev_call (s := .d (dNear (partedL (fields.getD i0 []) way))) (ea_cons (ev_var rfl rfl) (ea_cons (ev_var rfl rfl) ea_nil)) fun _ _ _ _ => ⟨fields.getD i0 [], way, rfl, hf100, by omega, hws.2, hw0f.1, hw0f.2.1, rfl⟩) (rv_catC (k := 0) rfl (by rw [List.length_map, List.length_map, List.length_eraseIdx]; have := hfo.1; show _ + 2 ≤ _; split <;> omega))) fun fc2 hfc2 => ?_
      have hfc2 : H fc2 = none := hfc2
      refine wp_drop1 hfc ?_
      rw [← List.map_append]
      refine s_for1 (α := List Nat) (fun i : Nat => PyData.int ((1 + i : Nat) : Int)) (as := List.range (way.length - 1)) (Src.rMN (m := 1) (n := way.length) (ea_cons ev_int (ea_cons (ev_eq (ev_cb (ea_cons (ev_var rfl rfl) ea_nil) rc_lenL) (by rw [List.length_map])) ea_nil))) (fun i P' => P'.Nodup ∧ ∀ x, x ∈ P' ↔ x ∈ P ∨ x ∈ (way.drop 1).take i) (fun _ _ => [.d (dTies B), .v (.ref nd), .any, .v (.ref fc2), .v (.ref pd), .v (.ref ld), .any, .d (dNs way), .any, .any, .any, .any]) (fun i P' => [(fc2, .lst (((fields.eraseIdx i0 ++ partedL (fields.getD i0 []) way).map dNs).map Sd.d)), (ld, .dt (gonD (laid ++ ((dl way).map pT).take i))), (pd, .dk (dkB P')), (nd, .dk (dictN (nearOf 16 B) ks))]) (fun G => nx_inv P ⟨hPn, fun x => by simp⟩ (hC := by rw [List.take_zero, List.append_nil])) ?_ ?_
      · rintro G i P' k hk ⟨hPn', hP''⟩
        obtain ⟨rfl, hkl⟩ := FK.range_get hk
        have hdl : ((dl way).map pT)[k]? = some (pairOf (way.getD k 0) (way.getD (k + 1) 0)) := by
          rw [List.getElem?_map, dl_get (by omega)]; rfl
        have hx : way[1 + k]? = some (way.getD (k + 1) 0) := by rw [Nat.add_comm]; exact getD_some (by omega)
        have hxd : (way.drop 1)[k]? = some (way.getD (k + 1) 0) := by rw [List.getElem?_drop]; exact hx
        have hpl' : P'.length ≤ 1000 := by
          have := List.Nodup.length_le_of_subset hPn' (l₂ := P ++ (way.drop 1).take k) fun x hx => List.mem_append.mpr ((hP'' x).mp hx)
          rw [List.length_append, List.length_take, List.length_drop] at this; omega
        have hnot : pairOf (way.getD k 0) (way.getD (k + 1) 0) ∉ laid ++ ((dl way).map pT).take k := by
          have h1 : (laid ++ (dl way).map pT)[laid.length + k]? = some (pairOf (way.getD k 0) (way.getD (k + 1) 0)) := by
            rw [List.getElem?_append_right (by omega), Nat.add_sub_cancel_left]; exact hdl
          have := not_take hnn h1
          rwa [List.take_length_add_append] at this
        refine q_dputK (k := 2) (x := .inl ((way.getD (k + 1) 0 : Nat) : Int)) (s := .d (.bool true)) rfl ev_bl (ev_var rfl rfl) (ev_op (ev_var rfl rfl) (ev_var rfl rfl) (rv_xL (atI_mapN dN hx))) ?_ (by unfold dkB; rw [List.length_map]; omega)
        rw [put_dkB]
        refine s_dputT (k := 1) (x := kT (pairOf (way.getD k 0) (way.getD (k + 1) 0))) (s := .d (.bool true)) rfl ev_bl (ev_var rfl rfl) (ev_call (ea_cons (ev_op (ev_var rfl rfl) (ev_eq (ev_op (ev_var rfl rfl) ev_int rv_ii) (show _ = sN k by show Sd.d (.int _) = Sd.d (.int _); congr 2; omega)) (rv_xL (atI_mapN dN (getD_some (by omega))))) (ea_cons (ev_op (ev_var rfl rfl) (ev_var rfl rfl) (rv_xL (atI_mapN dN hx))) ea_nil)) fun _ _ _ _ => ⟨_, _, rfl, rfl⟩) (nx_inv (addK P' (way.getD (k + 1) 0)) ⟨nodup_addK hPn', fun x => ?_⟩ (hC := ?_)) (by unfold gonD dictT; rw [List.length_map, List.length_append, List.length_take, List.length_map, dl_len]; omega)
        · rw [mem_addK, hP'', take_succ hxd, List.mem_append, List.mem_singleton, or_assoc]
        · have := putT_new (f := fun _ => Sd.d (.bool true)) hnot
          unfold gonD
          rw [take_succ hdl, ← List.append_assoc, ← this]; rfl
      · rintro P' ⟨hPn', hP''⟩
        rw [List.length_range] at hP'' ⊢
        refine nx_inv (⟨fields.eraseIdx i0 ++ partedL (fields.getD i0 []) way, laid ++ (dl way).map pT, P', fc2⟩ : Fst) ⟨⟨hnext, fun x => ?_, hPn', hfc2⟩, ?_⟩ (hC := ?_)
        · dsimp only
          rw [hP'', hP, pt_app, pt_dl hws.2, List.take_of_length_le (by rw [List.length_drop]; omega)]
          cases way with
          | nil => simp at hws
          | cons a way =>
            have ha : a = e0 := hw0f.2.2
            subst ha
            rw [List.mem_cons]
            constructor
            · rintro (h | h)
              · exact .inl h
              · exact .inr (.inr h)
            · rintro (h | rfl | h)
              · exact .inl h
              · exact .inl he0
              · exact .inr h
        · dsimp only
          rw [List.length_append, List.length_map, dl_len]; omega
        · dsimp only
          rw [List.take_of_length_le (l := (dl way).map pT) (by rw [List.length_map, dl_len]; omega)]
  · rintro ⟨fields, laid, P, fc⟩ ⟨hr, hP, hPn, hfc⟩ ht
    have ht : ¬ laid.length < B.length := of_decide_eq_false ht
    dsimp only at hr hP hPn hfc ⊢
    obtain ⟨_, hsub, hnd', _⟩ := run_ok hB.nrm hr
    have hall : ∀ t, t ∈ laid ↔ t ∈ B := fun t => ⟨hsub t, fun htB => Classical.byContradiction fun z => by
      have := sub_len (List.nodup_cons.mpr ⟨z, hnd'⟩) (B := B) fun u hu => by
        rcases List.mem_cons.mp hu with rfl | hu
        · exact htB
        · exact hsub u hu
      rw [List.length_cons] at this; omega⟩
    exact s_retC (ds := fields.map dNs) (k := 0) rfl (ev_var rfl rfl) (fun v F' H' x w => hq v F' H' x ⟨_, .inr ⟨fields, laid, rfl, hr, hall⟩, w⟩) (by simp; exact ⟨hfc, hld, hpd, hnd⟩)
end
end DV

set_option Elab.async false
set_option linter.all false
set_option maxRecDepth 100000
set_option maxHeartbeats 1000000
set_option autoImplicit false
/-! drawing.py at work: drawn_block, drawn -/
namespace DE
open PySem L2 FD FX FQ FI FM FN FB FW FK FU DA DB DC DD DW DX DV
open FZ hiding ev_lstM
open DY (turnL dkT look_dkT R_turns_of sp_turns_of)
open Evl (Ex sz_of sz_lt fresh_back)
/-! ### a def that answers None or a new cell -/
def SpU (R : Hp → Hp → List Sd → Prop → (Cd → Prop) → Prop) : Sp := fun vs H Q _ => ∃ F ss n P, Ex F H ∧ SlA F vs ss ∧ R F H ss n P ∧ (n → Ret ⟨F, H, []⟩ (.d .none) Q) ∧ ∀ c, P c → RetN ⟨F, H, []⟩ c Q
section
variable {N : List Str} {vs : List V} {H : Hp} {Q : VK} {E : XK} {t : TS} {D : Ends}
theorem enterU {R : Hp → Hp → List Sd → Prop → (Cd → Prop) → Prop} (h : SpU R vs H Q E) (k : ∀ F ss n P, Ex F H → SlA F vs ss → R F H ss n P → (n → Ret ⟨F, H, []⟩ (.d .none) Q) → (∀ c, P c → RetN ⟨F, H, []⟩ c Q) → ∃ ss', SlA F vs ss' ∧ WP ⟨F, H, []⟩ (ss' ++ List.replicate (N.length - ss'.length) .no) [] t D) : t D (L2.start N vs) H := by
  obtain ⟨F, ss, n, P, hf, ha, hr, hq, hp⟩ := h
  obtain ⟨ss', ha', w⟩ := k F ss n P hf ha hr hq hp
  exact w _ _ ⟨F, St.start hf ha'⟩
end
section
variable {B : Base} {Δ : List Sd} {C : Cs} {σ : L2.St} {H F : Hp} {ta tb te te2 : TE} {tu tz : TS} {D : Ends} {K : PySem.W.Frag} {s s1 : Sd}
/-- x = f(..), None or a cell -/
theorem q_callU {R : Hp → Hp → List Sd → Prop → (Cd → Prop) → Prop} {E : XK} {ta : TA} {ss : List Sd} {i : Nat} {n : Prop} {P : Cd → Prop} (h : EvA B Δ C ta ss) (hR : ∀ σ H F, FD.St B Δ C σ H F → R F H ss n P)
    (k1 : n → WP B (Δ.set i (.d .none)) C tz D) (k2 : ∀ c, P c → ∀ l, B.H l = none → WP B (Δ.set i (.v (.ref l))) ((l, c) :: C) tz D) : WP B Δ C (tSeq (tAsg (tCall (SpU R) [] E ta) (gName i)) tz) D := fun σ H ⟨F, hs⟩ =>
  h σ H F hs _ fun vs F1 H1 h1 e1 e1' w1 => by
    refine ⟨F1, ss, n, P, h1.fh, by rw [List.append_nil]; exact w1, hR σ H1 F1 h1, fun hn v F' H' x w => ?_, fun c hc => ?_⟩
    · have h2 := h1.by x
      exact k1 hn _ _ ⟨F', h2.slots (Sl.set (o := some v) (s := .d .none) w i h2.sl)⟩
    · refine RetN.post h1 fun p F' H' h3 e3 e3' hp => ?_
      exact k2 c hc p (h1.free hp) _ _ ⟨F', h3.slots (Sl.set (o := some (.ref p)) (s := .v (.ref p)) rfl i h3.sl)⟩
/-- f(x, {..}) -/
theorem evN_call1N {R : Hp → Hp → List Sd → Cd → Prop} {E : XK} {c c2 : Cd} (h1 : Ev B Δ C te s1) (h2 : EvN B Δ C te2 c2) (hR : ∀ σ H F l, FD.St B Δ ((l, c2) :: C) σ H F → R F H [s1, .v (.ref l)] c) : EvN B Δ C (tCall (SpN R) [] E (tCons te (tCons te2 tNil))) c := fun σ H F hs Q q =>
  h1 σ H F hs _ fun v1 F1 H1 st1 e1 e1' w1 => h2 σ H1 F1 st1 _ fun l F2 H2 st2 e2 e2' hl =>
    ⟨F2, [s1, .v (.ref l)], c, st2.fh, by rw [List.append_nil]; exact .cons (w1.mono e2) (.cons rfl .nil), hR σ H2 F2 l st2, RetN.post st2 fun p F' H' st3 e3 e3' hp => q p F' H' ((FD.St.perm st3 (.swap _ _ _)).dropC (st1.free hl)) (e1.trans (e2.trans e3)) (e1'.trans (e2'.trans e3')) (fresh_back (e1'.trans e2') hp)⟩
/-- {x: e, y: f} -/
theorem evN_disp2 {ka va kb vb : TE} {x y : Key} {s1 s2 : Sd} (hxy : x ≠ y) (h1 : ∀ C', Ev B Δ C' ka (.d (keyD x))) (h2 : ∀ C', Ev B Δ C' va s1) (h3 : ∀ C', Ev B Δ C' kb (.d (keyD y))) (h4 : ∀ C', Ev B Δ C' vb s2) : EvN B Δ C (tDisp [(ka, va), (kb, vb)]) (.dk [(x, s1), (y, s2)]) := fun σ H F hs Q q => fun p hp => by
  have hs1 := hs.newC hp (o := .dK []) (c := .dk []) ⟨[], rfl, .nil⟩
  refine h1 _ σ _ F hs1 _ fun v1 F1 H1 st1 e1 e1' w1 => h2 _ σ H1 F1 st1 _ fun v2 F2 H2 st2 e2 e2' w2 => h3 _ σ H2 F2 st2 _ fun v3 F3 H3 st3 e3 e3' w3 => h4 _ σ H3 F3 st3 _ fun v4 F4 H4 st4 e4 e4' w4 => ?_
  obtain ⟨vs, ho, kv⟩ := cell_dk (k := 0) st4 rfl
  cases kv
  refine ⟨ho, [(x, v2), (y, v4)], by rw [Rep.key w1, Rep.key w3]; rfl, by simp, ?_⟩
  have e : mergeK [] [(x, v2), (y, v4)] = [(x, v2), (y, v4)] := by
    unfold mergeK
    simp [putK, hxy]
  rw [e]
  have h5 := st4.put (k := 0) rfl (c' := .dk [(x, s1), (y, s2)]) (o := .dK [(x, v2), (y, v4)]) ⟨_, rfl, .cons ⟨rfl, w2.mono (e3.trans e4)⟩ (.cons ⟨rfl, w4⟩ .nil)⟩
  exact q p F4 _ h5 (e1.trans (e2.trans (e3.trans e4))) (Ex.mut ((Ex.new hp).trans (e1'.trans (e2'.trans (e3'.trans e4')))) hp) hp
/-- what is told of the base while our own dict at l is locked -/
structure LkdC (B : Base) (l : Addr) (vs : List (Key × V)) (kvs : List (Key × Sd)) (F1 H1 : Hp) (od : Obj) : Prop where
  fd : F1 l = some (.frz od (.dK vs))
  ff : Ex B.F F1
  kv : KvA F1 vs kvs
  free : ∀ a, H1 a = none → B.H a = none
theorem s_lockC {α : Type} {inv : α → Prop} {Δf : α → List Sd} {Cf : α → Cs} {l : Addr} {kvs : List (Key × Sd)} (hB : B.H l = none)
    (hp : ∀ a, inv a → (∀ s ∈ Δf a, plainS s) ∧ ∀ c ∈ Cf a, plainC c.2) (hCB : ∀ c ∈ C, B.H c.1 = none)
    (h : ∀ F1 H1 od vs (D1 : Ends), LkdC B l vs kvs F1 H1 od → (∀ a, inv a → Nx ⟨F1, H1, []⟩ (Δf a) (Cf a) D1.nx) → WP ⟨F1, H1, []⟩ Δ C tu D1)
    (k : ∀ a, inv a → Nx B (Δf a) (Cf a) D.nx) : WP B Δ ((l, .dk kvs) :: C) (tLock tu) D := fun σ H ⟨F, hs⟩ => by
  obtain ⟨vs, hHd, r⟩ := cell_dk hs (k := 0) rfl
  have hFd : F l = none := (hs.cell (k := 0) rfl).1
  have hlC : ∀ c ∈ C, c.1 ≠ l := fun c hc z => by
    have := hs.nd
    rw [List.map_cons, List.nodup_cons] at this
    exact this.1 (List.mem_map.mpr ⟨c, hc, z⟩)
  refine ⟨l, .dK vs, hHd, trivial, fun od => ?_⟩
  have e1 : Ex F (upd F l (.frz od (.dK vs))) := Ex.new hFd
  have hst : FD.St ⟨upd F l (.frz od (.dK vs)), upd H l (.frz od (.dK vs)), []⟩ Δ C σ (upd H l (.frz od (.dK vs))) (upd F l (.frz od (.dK vs))) := by
    refine ⟨Ex.refl _, fun a o q => ?_, fun _ _ _ e => e, fun a n => .inl n, hs.sl.mono e1, fun c hc => ?_, (List.nodup_cons.mp hs.nd).2, fun g hg => by cases hg⟩
    · by_cases z : a = l
      · subst z; rw [upd_same] at q; cases q; exact upd_same
      · rw [upd_ne z] at q ⊢; exact hs.fh _ _ q
    · obtain ⟨c1, o, c2, c3⟩ := hs.ce c (List.mem_cons_of_mem _ hc)
      have z := hlC c hc
      exact ⟨by rw [upd_ne z]; exact c1, o, by rw [upd_ne z]; exact c2, c3.mono e1⟩
  refine h _ _ od vs _ ⟨upd_same, hs.ff.trans e1, KvA.mono e1 r, fun a q => ?_⟩ (fun a ha σ' H' ⟨F2, h2⟩ => ?_) σ _ ⟨_, hst⟩
  · have z : a ≠ l := fun z => by subst z; rw [upd_same] at q; cases q
    rw [upd_ne z] at q
    exact hs.free q
  · have hF2 : F2 l = some (.frz od (.dK vs)) := h2.ff _ _ upd_same
    have hH2 : H' l = some (.frz od (.dK vs)) := h2.fh _ _ hF2
    refine ⟨hH2, k a ha σ' (upd H' l (.dK vs)) ⟨cutOf F2 l, ?_⟩⟩
    have f3 : ∀ x, x ≠ l → cutOf F2 l x = F2 x := fun x z => cutOf_ne z
    have f3d : cutOf F2 l l = none := cutOf_d
    have hF2F : ∀ a o, F a = some o → F2 a = some o := fun a o q => h2.ff _ _ (e1 _ _ q)
    have hFne : ∀ a o, F a = some o → a ≠ l := fun a o q z => by rw [z, hFd] at q; cases q
    have keep : KeepD F2 (cutOf F2 l) := fun a xs => by
      have : ∀ o, F2 a = some o → (∀ u, o ≠ .frz od u) → cutOf F2 l a = some o := fun o q n => by
        by_cases z : a = l
        · subst z; rw [hF2] at q; cases q; exact absurd rfl (n _)
        · rw [f3 a z]; exact q
      exact ⟨fun q => this _ q fun u z => (by cases z), fun q => this _ q fun u z => (by cases z)⟩
    obtain ⟨p1, p2⟩ := hp a ha
    refine ⟨fun x o q => ?_, fun x o q => ?_, fun x o n q => ?_, fun x n => ?_, Sl.keep keep p1 h2.sl, fun c hc => ?_, h2.nd, fun g hg => ?_⟩
    · have := hs.ff _ _ q
      rw [f3 x (hFne _ _ this)]; exact hF2F _ _ this
    · by_cases z : x = l
      · subst z; rw [f3d] at q; cases q
      · rw [f3 x z] at q; rw [upd_ne z]; exact h2.fh _ _ q
    · have z : x ≠ l := fun z => by subst z; rw [hB] at q; cases q
      rw [upd_ne z]
      refine h2.hh x o n ?_
      show upd H l (.frz od (.dK vs)) x = some o
      rw [upd_ne z]
      exact hs.hh x o (fun m => by
        obtain ⟨c, hc, e⟩ := List.mem_map.mp m
        rcases List.mem_cons.mp hc with rfl | hc
        · exact z e.symm
        · have := hCB c hc
          rw [e, q] at this; cases this) q
    · have z : x ≠ l := fun z => n (by subst z; exact f3d)
      rw [f3 x z] at n
      rcases h2.gr x n with w | w | w
      · have w : upd F l (.frz od (.dK vs)) x ≠ none := w
        rw [upd_ne z] at w
        exact hs.gr x w
      · have w : upd H l (.frz od (.dK vs)) x = none := w
        rw [upd_ne z] at w
        exact .inr (.inl (hs.free w))
      · obtain ⟨ys, w⟩ := w
        have w : upd H l (.frz od (.dK vs)) x = some (.tup ys) := w
        rw [upd_ne z] at w
        exact .inr (hs.isT ⟨ys, w⟩)
    · obtain ⟨c1, o, c2, c3⟩ := h2.ce c hc
      have z : c.1 ≠ l := fun z => by rw [z, hF2] at c1; cases c1
      exact ⟨by rw [f3 _ z]; exact c1, o, by rw [upd_ne z]; exact c2, CellOk.keep keep (p2 c hc) c3⟩
    · refine SlV.mono (fun x o q => ?_) (hs.gg g hg)
      rw [f3 x (hFne _ _ q)]; exact hF2F _ _ q
end
theorem rv_isNv {d : Addr} {B : Base} {Δ : List Sd} {C : Cs} : RV B Δ C xIsN (.v (.ref d)) (.d .none) (.d (.bool false)) := fun σ H F h x y h1 h2 Q q => by
  cases h1
  cases h2
  exact ⟨rfl, q.now h (.bl _)⟩
/-! ### drawn_block -/
def Stuck (B : List Tie) : Prop := 2 ≤ B.length ∧ ∃ fields laid ends inner, Run B fields laid ∧ Piece B laid ends inner ∧ fits fields ends = []
/-- f tells turns of the block's points -/
def DrawnB (B : List Tie) (f : Nat → List Nat) : Prop := ∃ fields laid T, Emb T laid fields ∧ (∀ t, t ∈ laid ↔ t ∈ B) ∧ (Run B fields laid ∨ ∃ t, B = [t] ∧ fields = [[t.1, t.2]]) ∧ ∀ p, Pt B p → f p = turnL T (nearOf 16 B) p
def BlkD (B : List Tie) (c : Cd) : Prop := ∃ ks f, c = .dk (dkT f ks) ∧ ks.Nodup ∧ (∀ x, x ∈ ks ↔ Pt B x) ∧ DrawnB B f
def R_drawn_block : Hp → Hp → List Sd → Prop → (Cd → Prop) → Prop := fun _ _ ss n P => ∃ B, ss = [.d (dTies B)] ∧ Blk B ∧ B.length ≤ 40 ∧ B ≠ [] ∧ n = Stuck B ∧ P = BlkD B
def sp_drawn_block (K : PySem.W.Frag) (C : Addr) : Sp := SpU R_drawn_block
def N_drawn_block : List Str := ["ties", "fields"]
def t_drawn_block (K : PySem.W.Frag) (C : Addr) : TS :=
  (tSeq (tIfS (tTest (tOp rEq (tCB (xLen K) (tCons (tVar 0) tNil)) (tC (.int 1)))) (tRet (tDisp [((tOp (rIx K) (tOp (rIx K) (tVar 0) (tC (.int 0))) (tC (.int 0))), (tLst (tCons (tOp (rIx K) (tOp (rIx K) (tVar 0) (tC (.int 0))) (tC (.int 1))) tNil))), ((tOp (rIx K) (tOp (rIx K) (tVar 0) (tC (.int 0))) (tC (.int 1))), (tLst (tCons (tOp (rIx K) (tOp (rIx K) (tVar 0) (tC (.int 0))) (tC (.int 0))) tNil)))])) tNext)
  (tSeq (tAsg (tCall (sp_fields_of K C) [] E0 (tCons (tVar 0) tNil)) (gName 1))
  (tSeq (tIfS (tTest (tOp xIsN (tVar 1) (tC .non))) (tRet (tC .non)) tNext)
  (tRet (tCall (sp_turns_of K C) [] E0 (tCons (tVar 1) (tCons (tCall (sp_near_of K C) [] E0 (tCons (tVar 0) tNil)) tNil)))))))
theorem near_of_mem {B : List Tie} (hB : FT.Nrm 16 B) {p a : Nat} : a ∈ (nearOf 16 B).getD p [] ↔ pairOf p a ∈ B := adjB hB
section
variable {K : PySem.W.Frag} {C : Addr} {vs : List V} {H : Hp} {Q : VK} {E : XK}
theorem near_one {t : Tie} (hB : FT.Nrm 16 [t]) : (nearOf 16 [t]).getD t.1 [] = [t.2] ∧ (nearOf 16 [t]).getD t.2 [] = [t.1] := by
  have hlt := (hB.rng t (by simp)).1
  have h1 := rowD_both hB t.1
  have h2 := rowD_both hB t.2
  rw [← h1, ← h2]
  unfold rowD bothT
  have n1 : ¬ t.2 = t.1 := by omega
  have n2 : ¬ t.1 = t.2 := by omega
  simp [List.filter_cons, n1, n2]
theorem pure_drawn_block (h : sp_drawn_block K C vs H Q E) : t_drawn_block K C { nx := fun _ H' => Q .non H', rt := Q } (L2.start N_drawn_block vs) H := by
  refine enterU h fun F ss n P hf ha hR hq hP => ?_
  obtain ⟨B, rfl, hB, hBl, hBn, rfl, rfl⟩ := hR
  refine ⟨_, ha, ?_⟩
  show WP ⟨F, H, []⟩ [.d (dTies B), .no] [] (t_drawn_block K C) _
  have hks : ∀ x, x ∈ keysT B ↔ Pt B x := fun x => mem_keysT
  refine q_when (b := decide (B.length = 1)) (evT_eq (et_test (ev_op (ev_cb (ea_cons (ev_var rfl rfl) ea_nil) rc_lenL) ev_int rv_eqI)) (by rw [decide_eq_decide, List.length_map]; omega)) (fun c => ?_) (fun c => ?_)
  · have c := of_decide_eq_true c
    obtain ⟨t, rfl⟩ : ∃ t, B = [t] := by
      match B, c with
      | [t], _ => exact ⟨t, rfl⟩
    have hlt := (hB.nrm.rng t (by simp)).1
    have x0 : ∀ {C'}, Ev ⟨F, H, []⟩ [.d (dTies [t]), .no] C' (tOp (rIx K) (tOp (rIx K) (tVar 0) (tC (.int 0))) (tC (.int 0))) (sN t.1) := ev_op (ev_op (ev_var rfl rfl) ev_int (rv_xL (d := dTie t) (atI_nat (j := 0) rfl))) ev_int (rv_xT (d := dN t.1) (atI_nat (j := 0) rfl))
    have x1 : ∀ {C'}, Ev ⟨F, H, []⟩ [.d (dTies [t]), .no] C' (tOp (rIx K) (tOp (rIx K) (tVar 0) (tC (.int 0))) (tC (.int 1))) (sN t.2) := ev_op (ev_op (ev_var rfl rfl) ev_int (rv_xL (d := dTie t) (atI_nat (j := 0) rfl))) ev_int (rv_xT (d := dN t.2) (atI_nat (j := 1) rfl))
    refine s_retE (evN_disp2 (x := .inl (t.1 : Int)) (y := .inl (t.2 : Int)) (s1 := .d (dNs [t.2])) (s2 := .d (dNs [t.1])) (fun e => by injection e with e; omega) (fun _ => x0) (fun _ => ev_lst1 x1) (fun _ => x1) (fun _ => ev_lst1 x0)) (hP _ ⟨[t.1, t.2], fun p => if p = t.1 then [t.2] else [t.1], ?_, by simp; omega, fun x => ?_, ?_⟩)
    · have hne : ¬ t.2 = t.1 := by omega
      show _ = Cd.dk [(.inl (t.1 : Int), .d (dNs (if t.1 = t.1 then [t.2] else [t.1]))), (.inl (t.2 : Int), .d (dNs (if t.2 = t.1 then [t.2] else [t.1])))]
      rw [if_pos rfl, if_neg hne]
    · unfold Pt; simp
    · obtain ⟨hn1, hn2⟩ := near_one hB.nrm
      have hne : ¬ t.2 = t.1 := by omega
      refine ⟨[[t.1, t.2]], [pairOf t.1 t.2], _, emb2 (by omega), fun u => by rw [← tie_pair hB.nrm (by simp)], .inr ⟨t, rfl, rfl⟩, fun p hp => ?_⟩
      obtain ⟨u, hu, hpu⟩ := hp
      rw [List.mem_singleton.mp hu] at hpu
      unfold turnL
      rcases hpu with rfl | rfl
      · dsimp only
        rw [hn1, if_pos rfl, if_pos rfl]
        simp [rotTo]
      · dsimp only
        rw [hn2, if_neg hne, if_neg hne, if_pos rfl]
        simp [rotTo]
  · have c := of_decide_eq_false c
    have hB2 : 2 ≤ B.length := by
      have := List.length_pos_iff.mpr hBn; omega
    refine q_tgtX (α := PyData) (js := [1]) (FldsP B) id (fun d Δ => Δ.set 1 (.d d)) (m := DM (FldsP B)) (ev_call (ea_cons (ev_var rfl rfl) ea_nil) fun _ _ _ _ => ⟨B, rfl, hB, hBl, hB2, rfl⟩) (fun F1 v ⟨d, h1, h2⟩ => ⟨d, h1, h2⟩) (fun _ => tg_name) fun d hd => ?_
    rcases hd with ⟨rfl, fields, laid, ends, inner, h1, h2, h3⟩ | ⟨fields, laid, rfl, hr, hl⟩
    · refine q_yes (et_test (ev_op (ev_var rfl rfl) ev_non rv_isN)) rfl ?_
      exact s_ret (s := .d .none) ev_non (hq ⟨hB2, fields, laid, ends, inner, h1, h2, h3⟩)
    · refine q_no (et_test (ev_op (ev_var rfl rfl) ev_non rv_isN)) rfl ?_
      obtain ⟨⟨T, hT⟩, hsub, hnd, _⟩ := run_ok hB.nrm hr
      have hfo := emb_small hB.nrm hBl hT hnd hsub
      refine s_retE (evN_call1N (s1 := .d (dNear fields)) (c2 := .dk (dictN (nearOf 16 B) (keysT B))) (ev_var rfl rfl) (evN_call (ea_cons (ev_var rfl rfl) ea_nil) fun _ _ _ _ => ⟨B, rfl, hB.nrm, hBl, rfl⟩) fun σ' H' F' l hs' => ?_) (hP _ ⟨keysT B, turnL T (nearOf 16 B), rfl, (keysD_ok _).1, hks, fields, laid, T, hT, hl, .inl hr, fun _ _ => rfl⟩)
      obtain ⟨dv, hd⟩ := dictB_of hs' (k := 0) rfl (near_facts hB.nrm)
      exact ⟨B, keysT B, dv, l, laid, fields, T, rfl, hB.nrm, hd, hks, hT, hl, hfo.1, hfo.2, rfl⟩
end
/-! ### drawn -/
def DrawnP (n : Nat) (ts : List Tie) (d : PyData) : Prop := (d = .none ∧ ∃ B ∈ blk n (nearOf n ts), Stuck B) ∨
  ∃ (turns : List (List Nat)) (L : List (List Tie × (Nat → List Nat))), d = dNear turns ∧ turns.length = n ∧ L.map (·.1) = blk n (nearOf n ts) ∧ (∀ x ∈ L, DrawnB x.1 x.2) ∧ ∀ p, turns.getD p [] = L.flatMap fun x => if pl x.1 p = true then x.2 p else []
def R_drawn (C : Addr) : Hp → Hp → List Sd → Sd → Prop := fun F H ss s => ∃ n ts, ss = [.p (WebM C n (nearOf n ts))] ∧ Good n ts ∧ n ≤ 16 ∧ ts.length ≤ 40 ∧ s = .p (DM (DrawnP n ts))
def sp_drawn (K : PySem.W.Frag) (C : Addr) : Sp := SpD (R_drawn C)
def N_drawn : List Str := ["web", "turns", "point", "ties", "own"]
def t_drawn (K : PySem.W.Frag) (C : Addr) : TS :=
  (tSeq (tAsg (tLc (iRng1 (tCons (tFld K (tVar 0) "many") tNil)) (gName 2) tYes (tLst tNil) [2]) (gName 1))
  (tSeq (tFor (iList K (tCall (sp_blocks K C) [] E0 (tCons (tVar 0) tNil))) (gName 3) (tSeq (tAsg (tCall (sp_drawn_block K C) [] E0 (tCons (tVar 3) tNil)) (gName 4))
  (tSeq (tIfS (tTest (tOp xIsN (tVar 4) (tC .non))) (tRet (tC .non)) tNext)
  (tLock (tFor (iKeys (tVar 4)) (gName 2) (tAsg (tOp rCat (tOp (rIx K) (tVar 1) (tVar 2)) (tDGet (tVar 4) (tVar 2))) (gSub (tVar 1) (tVar 2) rSetL)))))))
  (tRet (tVar 1))))
theorem look_dkT' {f : Nat → List Nat} {x : Nat} : ∀ {ks : List Nat}, x ∈ ks → lookA (dkT f ks) (.inl (x : Int)) = some (.d (dNs (f x)))
  | p :: ks, h => by
    show lookA ((.inl (p : Int), .d (dNs (f p))) :: dkT f ks) (.inl (x : Int)) = _
    rw [lookA_cons]
    by_cases c : p = x
    · subst c; rw [if_pos rfl]
    · rw [if_neg (fun z => c (by injection z; omega))]
      exact look_dkT' ((List.mem_cons.mp h).resolve_left (Ne.symm c))
theorem drawnB_len {B : List Tie} (hB : FT.Nrm 16 B) {f : Nat → List Nat} (h : DrawnB B f) {p : Nat} (hp : Pt B p) : (f p).Perm ((nearOf 16 B).getD p []) := by
  obtain ⟨fields, laid, T, hT, hl, _, hf⟩ := h
  rw [hf p hp]
  exact DY.turn_perm hB hT hl p
section
variable {K : PySem.W.Frag} {C : Addr} {vs : List V} {H : Hp} {Q : VK} {E : XK}
theorem blk_small {n : Nat} {ts : List Tie} (g : Good n ts) : (blk n (nearOf n ts)).length ≤ ts.length ∧ ∀ B ∈ blk n (nearOf n ts), B.length ≤ ts.length ∧ B ≠ [] := by
  have hT := FA.tiesOf_len g
  unfold blk FN.rowsOf
  refine ⟨?_, fun B hB => ?_⟩
  · rw [List.length_map]
    have := List.length_filter_le (isMin (bR (nearOf n ts)) (tiesOf n (nearOf n ts))) (List.range (tiesOf n (nearOf n ts)).length)
    rw [List.length_range] at this; omega
  · obtain ⟨k, hk, rfl⟩ := List.mem_map.mp hB
    have hkl := List.mem_range.mp (List.mem_filter.mp hk).1
    refine ⟨by rw [← hT]; exact List.length_filter_le _ _, fun e => ?_⟩
    have : at0 (tiesOf n (nearOf n ts)) k ∈ ([] : List Tie) := by
      rw [← e]
      exact List.mem_filter.mpr ⟨at0_mem hkl, bR_iff.mpr (.refl _)⟩
    cases this
theorem pure_drawn (w : WebC K C) (h : sp_drawn K C vs H Q E) : t_drawn K C { nx := fun _ H' => Q .non H', rt := Q } (L2.start N_drawn vs) H := by
  refine enterD h fun F ss s hf ha hR hq => ?_
  obtain ⟨n, ts, rfl, g, hn, hts, rfl⟩ := hR
  refine ⟨_, ha, ?_⟩
  show WP ⟨F, H, []⟩ [.p (WebM C n (nearOf n ts)), .no, .no, .no, .no] [] (t_drawn K C) _
  have hbs := blk_small g
  have hcl := blk_cls g hn
  refine q_new (c := .lst (((List.replicate n ([] : List Nat)).map dNs).map Sd.d)) (evN_eq (evN_lc1 dN (fun _ => true) (fun _ => .d (dNs [])) (Src.rN (n := n) (ea_cons (ev_many w (ev_var rfl rfl)) ea_nil)) (fun _ _ _ _ => et_yes) (fun _ _ _ _ _ => ev_lst0) (by rw [List.length_range]; omega)) ?_) fun tc htc => ?_
  · congr 1
    rw [List.filter_eq_self.mpr (fun _ _ => rfl), List.map_replicate, List.map_replicate, List.map_const', List.length_range]
  have htc : H tc = none := htc
  refine q_for1 (α := List (List Nat) × List (List Tie × (Nat → List Nat))) dTies (as := blk n (nearOf n ts)) (Src.list (ev_ofR (ss := (blk n (nearOf n ts)).map fun r => .p (NewD H (r.map dTie))) (evN_call (ea_cons (ev_var rfl rfl) ea_nil) fun σ' H' F' hs' => ⟨n, ts, H, rfl, g, hn, hts, fun _ h => hs'.free h, rfl⟩) fun F1 xs r => ?_)) (fun i a => a.1.length = n ∧ a.2.map (·.1) = (blk n (nearOf n ts)).take i ∧ (∀ x ∈ a.2, DrawnB x.1 x.2) ∧ (∀ p, a.1.getD p [] = a.2.flatMap fun x => if pl x.1 p = true then x.2 p else []) ∧ ∀ p, (a.1.getD p []).length ≤ 16 * i) (fun _ _ => [.any, .v (.ref tc), .any, .any, .any]) (fun _ a => [(tc, .lst ((a.1.map dNs).map Sd.d))]) (fun G => nx_inv (List.replicate n [], []) ⟨by simp, by simp, fun x hx => (by cases hx), fun p => ?_, fun p => ?_⟩) ?_ ?_
  · have := rep_newD (rs := (blk n (nearOf n ts)).map fun r => r.map dTie) (by rw [List.map_map]; exact r)
    rw [List.map_map] at this
    exact this
  · dsimp only
    rw [List.getD_eq_getElem?_getD, List.getElem?_replicate]; split <;> rfl
  · dsimp only
    rw [List.getD_eq_getElem?_getD, List.getElem?_replicate]; split <;> simp
  · rintro G i ⟨rows, L⟩ B hBi ⟨r1, r2, r3, r4, r5⟩
    dsimp only at r1 r2 r3 r4 r5
    have hBm := List.mem_of_getElem? hBi
    have hil := (List.getElem?_eq_some_iff.mp hBi).1
    have hC := hcl B hBm
    have hBk := hC.blk
    obtain ⟨hb1, hb2⟩ := hbs.2 B hBm
    refine q_callU (n := Stuck B) (P := BlkD B) (ea_cons (ev_var rfl rfl) ea_nil) (fun _ _ _ _ => ⟨B, rfl, hBk, by omega, hb2, rfl, rfl⟩) (fun hst => ?_) fun c hc d hd => ?_
    · refine q_yes (et_test (ev_op (ev_var rfl rfl) ev_non rv_isN)) rfl ?_
      exact s_ret (s := .p (DM (DrawnP n ts))) (ev_dm (d := .none) ev_non (.inl ⟨rfl, B, hBm, hst⟩)) (fun v F' H' x w => hq v F' H' ⟨x.ff, x.fh, x.hh, x.gr⟩ w) (by simp; exact htc)
    · obtain ⟨ks, f, rfl, hkn, hks, hdb⟩ := hc
      have hd : H d = none := hd
      refine q_no (et_test (ev_op (ev_var rfl rfl) ev_non rv_isNv)) rfl ?_
      have hk16 : ks.length ≤ 16 := nodup_len hkn fun x hx => pt_lt hBk.nrm ((hks x).mp hx)
      have hkN : ∀ x ∈ ks, x < n := fun x hx => by
        obtain ⟨t, ht, e⟩ := (hks x).mp hx
        have h1 := hC.sub t ht
        have := (FT.tiesOf_nrm g).rng t h1
        omega
      have hfl : ∀ p, Pt B p → (f p).length ≤ 16 := fun p hp => by
        rw [(drawnB_len hBk.nrm hdb hp).length_eq]; exact FA.row_len hBk.nrm.good (Nat.le_refl _) p
      refine s_lockC (α := List (List Nat)) (inv := fun rows' => rows'.length = n ∧ ∀ p, rows'.getD p [] = if p ∈ ks then rows.getD p [] ++ f p else rows.getD p []) (Δf := fun _ => [.any, .v (.ref tc), .any, .any, .any]) (Cf := fun rows' => [(tc, .lst ((rows'.map dNs).map Sd.d))]) hd (fun a _ => ⟨fun s hs => ?_, fun c hc => ?_⟩) (by simp; exact htc) (fun F1 H1 od dv D1 hlk hend => ?_) fun a ha => ?_
      · simp only [List.mem_cons, List.not_mem_nil, or_false] at hs
        rcases hs with rfl | rfl | rfl | rfl | rfl <;> exact trivial
      · rw [List.mem_singleton.mp hc]
        intro x hx
        obtain ⟨y, _, rfl⟩ := List.mem_map.mp hx
        exact trivial
      · refine s_for1 (α := List (List Nat)) dN (as := ks) (Src.keys hlk.fd (by rw [kva_keys hlk.kv]; unfold dkT; rw [List.map_map]; rfl) (ev_var rfl rfl)) (fun j rows' => rows'.length = n ∧ ∀ p, rows'.getD p [] = if p ∈ ks.take j then rows.getD p [] ++ f p else rows.getD p []) (fun _ _ => [.any, .v (.ref tc), .any, .any, .v (.ref d)]) (fun _ rows' => [(tc, .lst ((rows'.map dNs).map Sd.d))]) (fun G => nx_inv rows ⟨r1, fun p => by simp⟩) ?_ ?_
        · rintro G2 j rows' p hp ⟨q1, q2⟩
          have hpk := List.mem_of_getElem? hp
          have hpn := hkN p hpk
          have hpj := not_take hkn hp
          have e1 : rows'.getD p [] = rows.getD p [] := by rw [q2, if_neg hpj]
          have e2 := hfl p ((hks p).mp hpk)
          have e3 := r5 p
          have e4 : rows'[p]? = some (rows'.getD p []) := by
            rw [List.getD_eq_getElem?_getD, List.getElem?_eq_getElem (by omega)]; rfl
          refine s_setL (k := 0) (j := p) (s := .d (dNs (rows'.getD p [] ++ f p))) rfl (catF (ev_op (ev_var rfl rfl) (ev_var rfl rfl) (rv_xC 0 rfl (atI_nat (j := p) (by rw [List.getElem?_map, List.getElem?_map, e4]; rfl)))) (ev_dgetB (d := d) (vs := dv) (kvs := dkT f ks) (x := .inl (p : Int)) (fun σ' H' F' hs' => .inr ⟨od, hs'.fh _ _ (hs'.ff _ _ hlk.fd)⟩) hlk.kv (ev_var rfl rfl) (ev_var rfl rfl) (look_dkT' hpk)) (by rw [e1]; omega)) (ev_var rfl rfl) (ev_var rfl rfl) (ixN_nat (by rw [List.length_map, List.length_map]; omega)) (nx_inv (rows'.set p (rows'.getD p [] ++ f p)) ⟨by rw [List.length_set]; exact q1, fun x => ?_⟩ (hC := by rw [List.map_set, List.map_set]; rfl))
          rw [take_succ hp]
          by_cases c : x = p
          · subst c
            rw [List.getD_eq_getElem?_getD, List.getElem?_set_self (by omega), if_pos (by simp), e1]; rfl
          · rw [List.getD_eq_getElem?_getD, List.getElem?_set_ne (Ne.symm c), ← List.getD_eq_getElem?_getD, q2]
            have : x ∈ ks.take j ++ [p] ↔ x ∈ ks.take j := by simp [c]
            by_cases c2 : x ∈ ks.take j
            · rw [if_pos c2, if_pos (this.mpr c2)]
            · rw [if_neg c2, if_neg (fun z => c2 (this.mp z))]
        · rintro rows' ⟨q1, q2⟩
          rw [List.take_length] at q2
          exact fun σ' H' hs => hend rows' ⟨q1, q2⟩ σ' H' (hs.weak (.any (.same (.any (.any (.any .nil))))))
      · obtain ⟨q1, q2⟩ := ha
        refine nx_inv (a, L ++ [(B, f)]) ⟨q1, ?_, fun x hx => ?_, fun p => ?_, fun p => ?_⟩
        · dsimp only
          rw [List.map_append, r2, take_succ hBi]; rfl
        · rcases List.mem_append.mp hx with hx | hx
          · exact r3 x hx
          · rw [List.mem_singleton.mp hx]; exact hdb
        · dsimp only
          rw [q2, r4, List.flatMap_append]
          have e : p ∈ ks ↔ pl B p = true := by rw [hks, pl_iff]
          by_cases c : p ∈ ks
          · rw [if_pos c]
            simp [e.mp c]
          · rw [if_neg c]
            simp [show pl B p = false from by rw [not_pl]; exact fun z => c ((hks p).mpr z)]
        · dsimp only
          rw [q2]
          have e3 := r5 p
          split
          · rename_i c
            have e2 := hfl p ((hks p).mp c)
            rw [List.length_append]; omega
          · omega
  · rintro ⟨rows, L⟩ ⟨r1, r2, r3, r4, r5⟩
    dsimp only at r1 r2 r3 r4 r5
    rw [List.take_length] at r2
    exact s_retC (ds := rows.map dNs) (k := 0) rfl (ev_var rfl rfl) (fun v F' H' x w => hq v F' H' x ⟨_, .inr ⟨rows, L, rfl, r1, r2, r3, r4⟩, w⟩) (by simp; exact htc)
end
end DE

set_option Elab.async false
set_option linter.all false
set_option maxRecDepth 100000
set_option maxHeartbeats 1000000
set_option autoImplicit false
/-! what drawn() tells are turns of the web -/
namespace DH
open FW FM FN FB FT FR DA DB DC DD DV DE
theorem nodup_flat {α β : Type} {f : α → List β} : ∀ {L : List α}, (∀ x ∈ L, (f x).Nodup) → L.Pairwise (fun x y => ∀ a ∈ f x, a ∉ f y) → (L.flatMap f).Nodup
  | [], _, _ => List.nodup_nil
  | x :: L, h, hp => by
    have hp := List.pairwise_cons.mp hp
    rw [List.flatMap_cons, List.nodup_append]
    refine ⟨h x List.mem_cons_self, nodup_flat (fun y hy => h y (List.mem_cons_of_mem _ hy)) hp.2, fun a ha b hb e => ?_⟩
    subst e
    obtain ⟨y, hy, hay⟩ := List.mem_flatMap.mp hb
    exact hp.1 y hy a ha hay
section
variable {n : Nat} {ts : List Tie}
/-- a block holds no tie of another -/
theorem blk_pw : (blk n (nearOf n ts)).Pairwise fun A B => ∀ t ∈ A, t ∉ B := by
  unfold blk FN.rowsOf
  rw [List.pairwise_map]
  have hp : ((List.range (tiesOf n (nearOf n ts)).length).filter (isMin (bR (nearOf n ts)) (tiesOf n (nearOf n ts)))).Pairwise (· < ·) := List.Pairwise.filter _ List.pairwise_lt_range
  refine hp.imp_of_mem fun {a b} ha hb hab t h1 h2 => ?_
  have hb2 := (List.mem_filter.mp hb).2
  unfold isMin at hb2
  rw [List.all_eq_true] at hb2
  have := hb2 a (List.mem_range.mpr hab)
  have r1 := bR_iff.mp (List.mem_filter.mp h1).2
  have r2 := bR_iff.mp (List.mem_filter.mp h2).2
  rw [bR_iff.mpr (r1.trans r2.symm)] at this
  cases this
/-- each tie is in one -/
theorem blk_cover {t : Tie} (ht : t ∈ tiesOf n (nearOf n ts)) : ∃ B ∈ blk n (nearOf n ts), t ∈ B := by
  obtain ⟨k, hk, rfl⟩ := mem_at0 ht
  obtain ⟨j, ⟨hj, hjk⟩, hmin⟩ := FO.least (P := fun j => j < (tiesOf n (nearOf n ts)).length ∧ BRel (nearOf n ts) (at0 (tiesOf n (nearOf n ts)) j) (at0 (tiesOf n (nearOf n ts)) k)) ⟨k, hk, .refl _⟩
  unfold blk FN.rowsOf
  refine ⟨_, List.mem_map.mpr ⟨j, List.mem_filter.mpr ⟨List.mem_range.mpr hj, ?_⟩, rfl⟩, List.mem_filter.mpr ⟨ht, bR_iff.mpr hjk⟩⟩
  unfold isMin
  rw [List.all_eq_true]
  intro i hi
  have hi := List.mem_range.mp hi
  cases q : bR (nearOf n ts) (at0 (tiesOf n (nearOf n ts)) i) (at0 (tiesOf n (nearOf n ts)) j) with
  | false => rfl
  | true => exact absurd ⟨by omega, (bR_iff.mp q).trans hjk⟩ (hmin i hi)
theorem mem_ties_pair (g : Good n ts) {p a : Nat} : pairOf p a ∈ tiesOf n (nearOf n ts) ↔ a ∈ (nearOf n ts).getD p [] := by
  have h := adjB (tiesOf_nrm g) (x := p) (y := a)
  rw [← h]
  have e1 := nearOf_mem n (tiesOf n (nearOf n ts)) (fun s hs => by have := (tiesOf_nrm g).rng s hs; omega) p a
  have e2 := nearOf_mem n ts (fun s hs => ⟨(g.rng s hs).1, (g.rng s hs).2.1⟩) p a
  rw [h, FA.mem_tiesOf]
  have hs := near_sym g
  constructor
  · rintro ⟨h1, h2, h3⟩
    unfold pairOf at h1 h2 h3
    dsimp only at h1 h2 h3
    rcases Nat.le_total p a with c | c
    · rw [Nat.min_eq_left c, Nat.max_eq_right c] at h3; exact h3
    · rw [Nat.min_eq_right c, Nat.max_eq_left c] at h3; exact hs _ _ h3
  · intro h3
    have m := mem_near g h3
    have h4 := hs _ _ h3
    have m2 := mem_near g h4
    unfold pairOf
    dsimp only
    rcases Nat.le_total p a with c | c
    · rw [Nat.min_eq_left c, Nat.max_eq_right c]
      refine ⟨m2.2.1, ?_, h3⟩
      have : p ≠ a := fun e => by
        subst e
        have := e2.mp h3
        rcases this with z | z
        · exact (g.rng _ z).2.2 rfl
        · exact (g.rng _ z).2.2 rfl
      omega
    · rw [Nat.min_eq_right c, Nat.max_eq_left c]
      refine ⟨m.2.1, ?_, h4⟩
      have : p ≠ a := fun e => by
        subst e
        have := e2.mp h3
        rcases this with z | z
        · exact (g.rng _ z).2.2 rfl
        · exact (g.rng _ z).2.2 rfl
      omega
theorem drawn_tn (g : Good n ts) (hn : n ≤ 16) {turns : List (List Nat)} {L : List (List Tie × (Nat → List Nat))} (h1 : turns.length = n) (h2 : L.map (·.1) = blk n (nearOf n ts)) (h3 : ∀ x ∈ L, DrawnB x.1 x.2) (h4 : ∀ p, turns.getD p [] = L.flatMap fun x => if pl x.1 p = true then x.2 p else []) : Tn n ts turns := by
  have hcl := blk_cls g hn
  have hmem : ∀ x ∈ L, x.1 ∈ blk n (nearOf n ts) := fun x hx => by rw [← h2]; exact List.mem_map_of_mem hx
  have hrow : ∀ x ∈ L, ∀ p, (if pl x.1 p = true then x.2 p else []).Nodup ∧ ∀ a, a ∈ (if pl x.1 p = true then x.2 p else []) ↔ pairOf p a ∈ x.1 := fun x hx p => by
    have hC := hcl _ (hmem x hx)
    have hB := hC.blk.nrm
    by_cases c : pl x.1 p = true
    · rw [if_pos c]
      have hp := drawnB_len hB (h3 x hx) (pl_iff.mp c)
      refine ⟨hp.nodup_iff.mpr ((nearOf_row 16 x.1 hB.good p).imp fun h => Nat.ne_of_lt h), fun a => ?_⟩
      rw [hp.mem_iff, adjB hB]
    · rw [if_neg c]
      refine ⟨List.nodup_nil, fun a => ⟨fun h => (by cases h), fun h => absurd (pl_iff.mpr (pt_pair h).1) c⟩⟩
  have hpw : L.Pairwise fun x y => ∀ t ∈ x.1, t ∉ y.1 := by
    have := blk_pw (n := n) (ts := ts)
    rw [← h2, List.pairwise_map] at this
    exact this
  refine ⟨g, h1, fun p => ?_⟩
  rw [h4]
  refine (List.perm_ext_iff_of_nodup (nodup_flat (fun x hx => (hrow x hx p).1) (hpw.imp_of_mem fun {x y} hx hy hxy a ha hb => hxy _ ((hrow x hx p).2 a |>.mp ha) ((hrow y hy p).2 a |>.mp hb))) ((nearOf_row n ts g p).imp fun h => Nat.ne_of_lt h)).mpr fun a => ?_
  rw [List.mem_flatMap, ← mem_ties_pair g]
  constructor
  · rintro ⟨x, hx, ha⟩
    exact (hcl _ (hmem x hx)).sub _ ((hrow x hx p).2 a |>.mp ha)
  · intro h
    obtain ⟨B, hB, hpB⟩ := blk_cover h
    rw [← h2] at hB
    obtain ⟨x, hx, rfl⟩ := List.mem_map.mp hB
    exact ⟨x, hx, (hrow x hx p).2 a |>.mpr hpB⟩
end
end DH

set_option Elab.async false
set_option linter.all false
set_option maxRecDepth 100000
set_option maxHeartbeats 1000000
set_option autoImplicit false
/-! flat: as the program asks it, and as the law does -/
namespace DF
open PySem L2 FD FW FX FQ FM FP FN FZ FB FT FO FR FS
open FA hiding N_l_many t_l_many sp_l_many pure_l_many
open Evl (Ex)
def tiesP (near : List (List Nat)) (P : List Nat) : Nat := (P.map fun x => (near.getD x []).length).sum / 2
noncomputable def ownW (n : Nat) (ts : List Tie) (turns : List (List Nat)) (P : List Nat) : List (List Nat) := (walksL turns (darts n (nearOf n ts))).filter fun w => decide (w.headD 0 ∈ P)
noncomputable def okP (n : Nat) (ts : List Tie) (turns : List (List Nat)) (P : List Nat) : Bool := !(decide (0 < tiesP (nearOf n ts) P) && !decide (((ownW n ts turns P).length : Int) = (tiesP (nearOf n ts) P : Int) - (P.length : Int) + 2))
noncomputable def flatR (n : Nat) (ts : List Tie) (turns : List (List Nat)) : Bool := (pcs (nearOf n ts) n).1.all (okP n ts turns)
def ownL (ts : List Tie) (L : List Nat) (l : Nat) : List Tie := ts.filter fun t => decide (lab L t.1 = l)
noncomputable def seenL (n : Nat) (ts : List Tie) (turns : List (List Nat)) (L : List Nat) (l : Nat) : List Tie := (reps (nxt turns) (darts n (nearOf n ts))).filter fun s => decide (lab L s.1 = l)
noncomputable def okL (n : Nat) (ts : List Tie) (turns : List (List Nat)) (L : List Nat) (l : Nat) : Bool := !(decide (0 < (ownL ts L l).length) && !decide (((seenL n ts turns L l).length : Int) = ((ownL ts L l).length : Int) - (L.count l : Int) + 2))
theorem two_of {P : List Nat} (h : P.Nodup) {a b : Nat} (hab : a ≠ b) (ha : a ∈ P) (hb : b ∈ P) : (P.filter fun x => decide (x = a) || decide (x = b)).length = 2 := by
  have : (P.filter fun x => decide (x = a) || decide (x = b)).Perm [a, b] := by
    refine (List.perm_ext_iff_of_nodup (h.filter _) (by simp [hab])).mpr fun x => ?_
    rw [List.mem_filter]
    simp only [Bool.or_eq_true, decide_eq_true_eq, List.mem_cons, List.not_mem_nil, or_false]
    constructor
    · exact fun h => h.2
    · rintro (rfl | rfl)
      · exact ⟨ha, .inl rfl⟩
      · exact ⟨hb, .inr rfl⟩
  exact this.length_eq
theorem none_of {P : List Nat} {a b : Nat} (ha : a ∉ P) (hb : b ∉ P) : (P.filter fun x => decide (x = a) || decide (x = b)).length = 0 := by
  rw [List.filter_eq_nil_iff.mpr fun x hx => by
    simp only [Bool.or_eq_true, decide_eq_true_eq, not_or]
    exact ⟨fun e => ha (e ▸ hx), fun e => hb (e ▸ hx)⟩]; rfl
theorem sum_add (f g : Nat → Nat) : ∀ P : List Nat, (P.map fun x => f x + g x).sum = (P.map f).sum + (P.map g).sum
  | [] => rfl
  | x :: P => by
    simp only [List.map_cons, List.sum_cons]
    rw [sum_add f g P]; omega
theorem sum_if (p : Nat → Bool) : ∀ P : List Nat, (P.map fun x => if p x = true then 1 else 0).sum = (P.filter p).length
  | [] => rfl
  | x :: P => by
    rw [List.map_cons, List.sum_cons, sum_if p P, List.filter_cons]
    by_cases c : p x = true
    · rw [if_pos c, if_pos c, List.length_cons]; omega
    · rw [if_neg c, if_neg c]; omega
/-- what meets the points of a class, told over points and over ties -/
theorem deg_sum {P : List Nat} (hP : P.Nodup) {c : Tie → Bool} : ∀ ts : List Tie, (∀ t ∈ ts, t.1 ≠ t.2 ∧ (c t = true → t.1 ∈ P ∧ t.2 ∈ P) ∧ (c t = false → t.1 ∉ P ∧ t.2 ∉ P)) → (P.map fun x => (ts.filter (hasP x)).length).sum = 2 * (ts.filter c).length
  | [], _ => by
    have : ∀ P : List Nat, (P.map fun x => (([] : List Tie).filter (hasP x)).length).sum = 0 := fun P => by
      induction P with
      | nil => rfl
      | cons x P ih => rw [List.map_cons, List.sum_cons, ih]; rfl
    rw [this]; rfl
  | t :: ts, h => by
    have ih := deg_sum hP ts fun t ht => h t (List.mem_cons_of_mem _ ht)
    obtain ⟨h1, h2, h3⟩ := h t List.mem_cons_self
    have e : (fun x : Nat => ((t :: ts).filter (hasP x)).length) = fun x => (if hasP x t = true then 1 else 0) + (ts.filter (hasP x)).length := by
      funext x
      rw [List.filter_cons]
      by_cases c : hasP x t = true
      · rw [if_pos c, if_pos c, List.length_cons]; omega
      · rw [if_neg c, if_neg c]; omega
    rw [e, sum_add, ih, sum_if (fun x => hasP x t)]
    have e2 : (P.filter fun x => hasP x t) = P.filter fun x => decide (x = t.1) || decide (x = t.2) := rfl
    rw [e2, List.filter_cons]
    cases q : c t with
    | true =>
      rw [two_of hP h1 (h2 q).1 (h2 q).2, if_pos rfl, List.length_cons]; omega
    | false =>
      rw [none_of (h3 q).1 (h3 q).2, if_neg (by simp)]; omega
theorem deg_len {n : Nat} {ts : List Tie} (g : Good n ts) (p : Nat) : ((nearOf n ts).getD p []).length = (ts.filter (hasP p)).length := by
  rw [← own_sort g p, (sortN_perm _).length_eq, List.length_map]
theorem range_labs {n : Nat} {L : List Nat} (hl : L.length = n) : L = (List.range n).map (lab L) := by
  refine List.ext_getElem? fun i => ?_
  rw [List.getElem?_map]
  by_cases c : i < n
  · rw [List.getElem?_range c, List.getElem?_eq_getElem (by omega)]
    unfold lab
    rw [Option.map_some, List.getD_eq_getElem?_getD, List.getElem?_eq_getElem (by omega)]; rfl
  · rw [List.getElem?_eq_none (by omega), List.getElem?_eq_none (by rw [List.length_range]; omega)]; rfl
theorem count_lab {n : Nat} {L : List Nat} (hl : L.length = n) (l : Nat) : L.count l = (labRow L n l).length := by
  conv => lhs; rw [range_labs hl]
  unfold labRow
  rw [List.count, List.countP_map, List.countP_eq_length_filter]
  congr 1
theorem walk_head {n : Nat} {ts : List Tie} {turns : List (List Nat)} (ht : Tn n ts turns) {s : Tie} (hs : s ∈ darts n (nearOf n ts)) : (walkOf turns s)[0]? = some s.1 ∧ (walkOf turns s).headD 0 = s.1 := by
  obtain ⟨hp, _⟩ := ht.rnd.per hs
  have h0 : (walkOf turns s)[0]? = some s.1 := by
    unfold walkOf orb
    rw [List.getElem?_map, List.getElem?_map, List.getElem?_range hp.1]; rfl
  refine ⟨h0, ?_⟩
  cases q : walkOf turns s with
  | nil => rw [q] at h0; cases h0
  | cons a l => rw [q] at h0; exact Option.some.inj h0
section
variable {n : Nat} {ts : List Tie} {turns : List (List Nat)} {L : List Nat}
theorem mem_row {x l : Nat} : x ∈ labRow L n l ↔ x < n ∧ lab L x = l := by
  unfold labRow; rw [List.mem_filter, List.mem_range, decide_eq_true_eq]
theorem tie_lab (g : Good n ts) (hL : LabOk n ts L) {t : Tie} (ht : t ∈ ts) : lab L t.1 = lab L t.2 := by
  have h := g.rng t ht
  rw [hL.iff t.1 t.2 h.1 h.2.1]
  exact FM.Conn.tie ht
theorem tiesP_row (g : Good n ts) (hL : LabOk n ts L) (l : Nat) : tiesP (nearOf n ts) (labRow L n l) = (ownL ts L l).length := by
  unfold tiesP
  have e : (fun x => ((nearOf n ts).getD x []).length) = fun x => (ts.filter (hasP x)).length := funext fun x => deg_len g x
  rw [e, deg_sum (P := labRow L n l) (c := fun t => decide (lab L t.1 = l)) ((List.nodup_range).filter _) ts (fun t ht => ?_)]
  · unfold ownL; omega
  · have h := g.rng t ht
    have h2 := tie_lab g hL ht
    refine ⟨h.2.2, fun c => ?_, fun c => ?_⟩
    · have c := of_decide_eq_true c
      exact ⟨mem_row.mpr ⟨h.1, c⟩, mem_row.mpr ⟨h.2.1, by rw [← h2]; exact c⟩⟩
    · have c := of_decide_eq_false c
      exact ⟨fun z => c (mem_row.mp z).2, fun z => c (by rw [h2]; exact (mem_row.mp z).2)⟩
theorem own_seen (ht : Tn n ts turns) (l : Nat) : (ownW n ts turns (labRow L n l)).length = (seenL n ts turns L l).length := by
  unfold ownW seenL walksL
  rw [List.filter_map, List.length_map]
  congr 1
  refine List.filter_congr fun s hs => ?_
  have hD := reps_mem hs
  have hn := (mem_darts.mp hD).1
  simp only [Function.comp]
  rw [(walk_head ht hD).2, decide_eq_decide, mem_row]
  exact ⟨fun h => h.2, fun h => ⟨hn, h⟩⟩
/-- the program's word is the law's -/
theorem flat_law (ht : Tn n ts turns) (hn : n ≤ 16) (hL : LabOk n ts L) : (List.range n).all (okL n ts turns L) = flatR n ts turns := by
  unfold flatR
  rw [(pcs_lab ht.g hn hL n (Nat.le_refl n)).1, Bool.eq_iff_iff, List.all_eq_true, List.all_eq_true]
  have key : ∀ l, okL n ts turns L l = okP n ts turns (labRow L n l) := fun l => by
    unfold okL okP
    rw [tiesP_row ht.g hL, own_seen ht, count_lab hL.len]
  constructor
  · intro h P hP
    obtain ⟨l, hl, rfl⟩ := List.mem_map.mp hP
    rw [← key]; exact h l (List.mem_filter.mp hl).1
  · intro h l hl
    by_cases c : lab L l = l
    · rw [key]; exact h _ (List.mem_map.mpr ⟨l, List.mem_filter.mpr ⟨hl, decide_eq_true c⟩, rfl⟩)
    · have h0 : labRow L n l = [] := Classical.byContradiction fun z => c ((labRow_nil hL (List.mem_range.mp hl)).mp z)
      have : (ownL ts L l).length = 0 := by rw [← tiesP_row ht.g hL, h0]; simp [tiesP]
      unfold okL
      rw [this]; rfl
end
end DF

set_option Elab.async false
set_option linter.all false
set_option maxRecDepth 100000
set_option maxHeartbeats 1000000
set_option autoImplicit false
/-! flat at work -/
namespace DG
open PySem L2 FD FW FX FQ FM FP FN FZ FB FT FO FR FS DF
open FA hiding N_l_many t_l_many sp_l_many pure_l_many
open Evl (Ex)
def R_flat (C : Addr) : Hp → Hp → List Sd → Sd → Prop := fun F H ss s => ∃ n ts turns, ss = [.p (WebM C n (nearOf n ts)), .d (dNear turns)] ∧ n ≤ 16 ∧ ts.length ≤ 40 ∧ Tn n ts turns ∧ s = .d (.bool (flatR n ts turns))
def sp_flat (K : PySem.W.Frag) (C : Addr) : Sp := SpD (R_flat C)
def N_flat : List Str := ["web", "turns", "fields", "piece", "ties", "own", "walk", "point"]
def t_flat (K : PySem.W.Frag) (C : Addr) : TS :=
  (tSeq (tAsg (tCall (sp_walks K C) [] E0 (tCons (tVar 0) (tCons (tVar 1) tNil))) (gName 2))
  (tSeq (tFor (iList K (tMeth C "pieces" (sp_Web_pieces K C) [] E0 (tVar 0) tNil)) (gName 3) (tSeq (tAsg (tOp (rI CDiv fun i j => .int (i / j)) (tCB (rSum K) (tCons (tLc (iList K (tVar 3)) (gName 7) tYes (tCB (xLen K) (tCons (tOp (rIx K) (tFld K (tVar 0) "near") (tVar 7)) tNil)) [7]) tNil)) (tC (.int 2))) (gName 4))
  (tSeq (tAsg (tLc (iList K (tVar 2)) (gName 6) (tTest (tOp (rIn K false) (tOp (rIx K) (tVar 6) (tC (.int 0))) (tVar 3))) (tVar 6) [6]) (gName 5))
  (tIfS (tAnd (tTest (tOp (rI0 fun i j => .bl (decide (j < i))) (tVar 4) (tC (.int 0)))) (tTest (tOp rNe (tCB (xLen K) (tCons (tVar 5) tNil)) (tOp (rI0 fun i j => .int (i + j)) (tOp (rI0 fun i j => .int (i - j)) (tVar 4) (tCB (xLen K) (tCons (tVar 3) tNil))) (tC (.int 2)))))) (tRet (tC (.bl false))) tNext))))
  (tRet (tC (.bl true)))))
theorem rep_newN {F H0 : Hp} {rows : List (List Nat)} {xs : List V} (h : SlA F xs (rows.map fun r => .p (NewD H0 (r.map dN)))) : RepA F xs (rows.map dNs) := by
  have e : (rows.map fun r => Sd.p (NewD H0 (r.map dN))) = (rows.map fun r => r.map dN).map fun r => .p (NewD H0 r) := by rw [List.map_map]; rfl
  rw [e] at h
  have := rep_newD h
  rw [List.map_map] at this
  exact this
theorem walks_len {n : Nat} {ts : List Tie} {turns : List (List Nat)} (ht : Tn n ts turns) (h16 : n ≤ 16) : (walksL turns (darts n (nearOf n ts))).length ≤ 256 ∧ ∀ r ∈ walksL turns (darts n (nearOf n ts)), r.length ≤ 256 := by
  have hD := darts_len ht.g h16
  constructor
  · unfold walksL reps
    rw [List.length_map, List.length_map]
    have h1 := List.length_filter_le (isMin (sR (nxt turns)) (darts n (nearOf n ts))) (List.range (darts n (nearOf n ts)).length)
    rw [List.length_range] at h1
    omega
  · intro r hr
    unfold walksL at hr
    obtain ⟨s, hs, rfl⟩ := List.mem_map.mp hr
    have := (ht.rnd.per (reps_mem hs)).2
    unfold walkOf orb
    rw [List.length_map, List.length_map, List.length_range]; omega
theorem pcs_row {n : Nat} {ts : List Tie} (g : Good n ts) (hn : n ≤ 16) : ∀ P ∈ (pcs (nearOf n ts) n).1, P.length ≤ 16 ∧ ∀ x ∈ P, x < n := fun P hP => by
  have hL := labelsOf_ok n ts fun t ht => ⟨(g.rng t ht).1, (g.rng t ht).2.1⟩
  rw [(pcs_lab g hn hL n (Nat.le_refl n)).1] at hP
  obtain ⟨l, hl, rfl⟩ := List.mem_map.mp hP
  refine ⟨?_, fun x hx => (mem_row.mp hx).1⟩
  have := List.length_filter_le (fun p => decide (lab (labelsOf n ts) p = l)) (List.range n)
  rw [List.length_range] at this
  unfold labRow; omega
section
variable {K : PySem.W.Frag} {C : Addr} {vs : List V} {H : Hp} {Q : VK} {E : XK}
theorem pure_flat (w : WebC K C) (h : sp_flat K C vs H Q E) : t_flat K C { nx := fun _ H' => Q .non H', rt := Q } (L2.start N_flat vs) H := by
  refine enterD h fun F ss s hf ha hR hq => ?_
  obtain ⟨n, ts, turns, rfl, hn, hts, ht, rfl⟩ := hR
  refine ⟨_, ha, ?_⟩
  show WP ⟨F, H, []⟩ [.p (WebM C n (nearOf n ts)), .d (dNear turns), .no, .no, .no, .no, .no, .no] [] (t_flat K C) _
  have hok := nearOf_ok ht.g hn
  have hlen := nearOf_len n ts
  have hrowl := row_len ht.g hn
  obtain ⟨wl1, wl2⟩ := walks_len ht hn
  have hpr := pcs_row ht.g hn
  have hpl := pcs_len (nearOf n ts) n
  refine q_asg (s := .d (dNear (walksL turns (darts n (nearOf n ts))))) (ev_ofR (ss := (walksL turns (darts n (nearOf n ts))).map fun r => .p (NewD H (r.map dN))) (evN_call (ea_cons (ev_var rfl rfl) (ea_cons (ev_var rfl rfl) ea_nil)) fun σ' H' F' hs' => ⟨n, ts, turns, H, rfl, hn, hts, ht, fun _ h => hs'.free h, rfl⟩) fun F1 xs r => rep_newN r) ?_
  refine q_for1 (α := Unit) dNs (as := (pcs (nearOf n ts) n).1) (Src.list (ev_ofR (ss := (pcs (nearOf n ts) n).1.map fun r => .p (NewL H r)) (evN_meth (ev_var rfl rfl) (fun F' v hv => selfI hv) ea_nil fun σ' H' F' hs' => ⟨n, nearOf n ts, H, rfl, hlen, hok, fun _ h => hs'.free h, rfl⟩) fun F1 xs r => rep_newL r)) (fun i _ => ((pcs (nearOf n ts) n).1.take i).all (okP n ts turns) = true) (fun _ _ => [.p (WebM C n (nearOf n ts)), .d (dNear turns), .d (dNear (walksL turns (darts n (nearOf n ts)))), .any, .any, .any, .any, .any]) (fun _ _ => []) (fun G => nx_inv () rfl) ?_ ?_
  · intro G i _ P hP hI
    have hPm := List.mem_of_getElem? hP
    obtain ⟨hP16, hPn⟩ := hpr P hPm
    refine q_asg (s := sN (tiesP (nearOf n ts) P)) (ev_eq (ev_op (ev_cb (ea_cons (ev_of' ((P.map fun x => (((nearOf n ts).getD x []).length : Int)).map PyData.int) (evN_lc1A dN (fun x => sN ((nearOf n ts).getD x []).length) (Src.list (ev_var rfl rfl)) (fun B' x le hx => ?_) (by omega)) (by rw [List.map_map, List.map_map]; rfl)) ea_nil) rc_sum) ev_int (rv_iC (P := CDiv) ⟨by decide, by decide⟩)) ?_) ?_
    · exact ev_eq (ev_cb (ea_cons (ev_op (ev_near w (ev_var rfl rfl)) (ev_var rfl rfl) (rv_xL (atI_mapN dNs (row_at hlen (hPn x hx))))) ea_nil) rc_lenL) (by rw [List.length_map])
    · have : ∀ l : List Nat, (l.map fun x => (((nearOf n ts).getD x []).length : Int)).sum = ((l.map fun x => ((nearOf n ts).getD x []).length).sum : Nat) := fun l => by
        induction l with
        | nil => rfl
        | cons x l ih => simp only [List.map_cons, List.sum_cons]; rw [ih]; omega
      rw [this]
      unfold tiesP
      show Sd.d (.int _) = Sd.d (.int _)
      congr 2
    refine q_asg (s := .d (dNear (ownW n ts turns P))) (ev_of' ((ownW n ts turns P).map dNs) (evN_lc1 dNs (fun w => decide (w.headD 0 ∈ P)) (fun w => .d (dNs w)) (Src.list (ev_var rfl rfl)) (fun B' w le hw => ?_) (fun B' w le hw _ => ev_var rfl rfl) (by omega)) (by rw [List.map_map]; rfl)) ?_
    · obtain ⟨s, hs, rfl⟩ := List.mem_map.mp (show w ∈ (reps (nxt turns) (darts n (nearOf n ts))).map (walkOf turns) from hw)
      obtain ⟨k1, k2⟩ := walk_head ht (reps_mem hs)
      rw [k2]
      exact evT_eq (et_test (ev_op (ev_op (ev_var rfl rfl) ev_int (rv_xL (atI_nat (j := 0) (by rw [List.getElem?_map, k1]; rfl)))) (ev_eq (ev_var rfl rfl) (show Sd.d (dNs P) = Sd.d (.list ((P.map fun n : Nat => (n : Int)).map .int)) by rw [List.map_map]; rfl)) rv_inI)) (any_nats s.1 P)
    refine s_when (b := !okP n ts turns P) (evT_eq (et_and (a := decide (0 < tiesP (nearOf n ts) P)) (b := !decide (((ownW n ts turns P).length : Int) = (tiesP (nearOf n ts) P : Int) - (P.length : Int) + 2)) (evT_eq (et_test (ev_op (ev_var rfl rfl) ev_int rv_ib)) ?_) fun _ => evT_eq (et_test (ev_op (ev_cb (ea_cons (ev_var rfl rfl) ea_nil) rc_lenL) (ev_op (ev_op (ev_var rfl rfl) (ev_cb (ea_cons (ev_var rfl rfl) ea_nil) rc_lenL) rv_ii) ev_int rv_ii) rv_neI)) ?_) (by unfold okP; rw [Bool.not_not])) (fun c => ?_) (fun c => ?_)
    · rw [decide_eq_decide]; omega
    · rw [List.length_map, List.length_map]
    · refine s_ret (s := .d (.bool (flatR n ts turns))) (ev_eq ev_bl ?_) (fun v F' H' x w => hq v F' H' ⟨x.ff, x.fh, x.hh, x.gr⟩ w)
      have : flatR n ts turns = false := by
        unfold flatR
        rw [List.all_eq_false]
        exact ⟨P, hPm, by simpa using c⟩
      rw [this]
    · refine nx_inv () ?_
      rw [take_succ hP, List.all_append, hI]
      have c : okP n ts turns P = true := by simpa using c
      simp [c]
  · intro _ hI
    rw [List.take_length] at hI
    exact s_ret (s := .d (.bool (flatR n ts turns))) (ev_eq ev_bl (by unfold flatR; rw [hI])) hq
end
end DG

set_option Elab.async false
set_option linter.all false
set_option maxRecDepth 100000
set_option maxHeartbeats 1000000
set_option autoImplicit false
/-! d.pop(t): a tuple key that is there -/
namespace FJ
section
open PySem PySem.W PySem.Calls PyProof.Rows PyProof.V PySem.Spec DT
variable {K : Type} [DecidableEq K] {prog : Program} {w : World} {knd : HeapKind prog w K}
theorem meetsPop1 {d b : Addr} {k : K} (hd : (d == sysModules) = false) :
    MeetsIn prog w (Builtin.«dict.pop» ⟨[.ref d, .ref b], []⟩) (fun A R s => ∃ xs, knd.room A.in1 ∧ knd.is s.heap k b ∧ s.heap.DictOfH knd d xs ∧ xs.length ≤ sizeLine ∧
      atKey xs k ≠ none ∧
      ∀ p, atKey xs k = some p → ∀ h' tk, h'.DictOfH knd d (dropH xs k) → Heap.SameBut d s.heap h' → R (.ok (.ret p.2)) { s with heap := h', toks := tk }) :=
  .of_wp fun A R s ⟨xs, hu, hkey, hm, hsz, hthere, hsome⟩ => by
    obtain ⟨o, es, ep, ho, hc, hdat, he, his, hn⟩ := id hm
    have hes : es.size = xs.length := size_of_entries he
    have hpart : (keyPart (Value.ref b)).isSome = false := rfl
    unfold Builtin.«dict.pop»
    refine wpAny_bind ?_
    unfold Builtin.Dict.keyAndDefault
    refine wpAny_bind (wpAny_notOrdered_dict hm.typeIs ?_)
    show wpAny _ _ (pure (d, Value.ref b, none)) _ _ s
    refine wpAny_pure ?_
    simp only [hpart, Bool.false_eq_true, if_false]
    refine wpAny_bind (wpAny_dictEntries ho hdat (wpAny_bind (wpAny_pure ?_)))
    cases hem : es.isEmpty with
    | true =>
      have h0 : xs = [] := by
        have z : es.size = 0 := by simpa using hem
        exact List.length_eq_zero_iff.mp (by omega)
      exact absurd (by rw [h0]; rfl) hthere
    | false =>
      simp only [Bool.false_eq_true, if_false]
      refine wpAny_bind (takeH hu hkey hm hsz (fun hno => absurd hno hthere) fun p e hp hev h' hm' hs' => ?_)
      simp only [Option.isNone_some, Bool.false_eq_true, if_false]
      exact wpAny_bind (wpAny_letGo (wpAny_pure ⟨e.val, rfl, by rw [hev]; exact hsome p hp h' _ hm' hs'⟩))
end
section
open PySem PySem.Spec PyProof.Rows L2.DX
open L2 hiding St
variable {X : Cx}
def rPopT1 : V → List V → Hp → VK → Prop := fun x xs H Q => ∃ (a : Addr) (kvs : List (List L2.Key × V)) (k : List L2.Key) (b : Addr) (v : V), x = .ref a ∧ xs = [.ref b] ∧ H a = some (.dT kvs) ∧ H b = some (.tup (k.map kV)) ∧ valV kvs k = some v ∧ Q v (upd H a (.dT (dropK kvs k)))
theorem mt_popT1 (hu : X.A.units + 1 < cLine) : MtR X "dict.pop" rPopT1 := by
  intro pins s σ H x xs v us Q I rx rxs h
  obtain ⟨a, kvs, k, b, v0, rfl, rfl, ha, hb, ev, q1⟩ := h
  cases rx
  cases rxs with | cons r1 r2 =>
  cases r2
  cases r1
  obtain ⟨z, hd, xs', rel, dd⟩ := dt_of I.hok ha
  have hz : xs'.length ≤ sizeLine := by rw [← Paired.length rel]; exact z
  have r := rel.val k
  rw [ev] at r
  refine call_meetsIn PySem.F.slot_dict_pop dd.typeIs PySem.F.entry_dict_pop (PySem.F.args_dict_pop_2 _ _) (meetsPop1 (knd := tupleKind (mixKind X.prog X.w)) (k := k) hd)
    ⟨xs', tupleKind_room_in1 hu, key_of I.hok hb, dd, hz, fun hn => ?_, fun p hp h' tk dd' hs => ?_⟩
  · rw [hn] at r
    exact (show False from r).elim
  · rw [hp] at r
    have rv : RelV v0 p.2 := r
    obtain ⟨o, es, ep, hq, h2, h3, h4, _, h5⟩ := dd'
    have I2 : Inv X pins σ (upd H a (.dT (dropK kvs k))) { s with heap := h', toks := tk } :=
      d_write I (by rw [ha]; exact True.intro) hs ⟨o, hq⟩ ⟨Nat.le_trans (dropK_le kvs k) z, hd, _, (KT_drop k rel).keeps (fun c ys ec => (by rw [upd_ne (ne_of ec ha (fun z => nomatch z))]; exact ec)), o, es, ep, hq, h2, h3, h4, h5⟩
    show EP X pins σ Q p.2 _
    exact ⟨v0, _, I2, rv, q1⟩
end
end FJ

set_option Elab.async false
set_option linter.all false
set_option maxRecDepth 100000
set_option maxHeartbeats 1000000
set_option autoImplicit false
namespace L07
open PySem L2 FD FW FX FQ FM FP FN FZ FB FT FO FR FS DF DG
open FA hiding N_l_many t_l_many sp_l_many pure_l_many
open DW (bothT bothT_snoc)
open Evl (Ex sz_of sz_lt fresh_back)
/-! ### steps, and those that are left -/
def swp (t : Tie) : Tie := (t.2, t.1)
theorem mem_both {ts : List Tie} {s : Tie} : s ∈ bothT ts ↔ s ∈ ts ∨ swp s ∈ ts := by
  unfold bothT
  rw [List.mem_flatMap]
  constructor
  · rintro ⟨t, ht, h⟩
    have h : s = (t.1, t.2) ∨ s = (t.2, t.1) := by simpa using h
    rcases h with rfl | rfl
    · exact .inl ht
    · exact .inr ht
  · rintro (h | h)
    · exact ⟨s, h, by simp⟩
    · exact ⟨_, h, by simp [swp]⟩
theorem both_nd {n : Nat} {ts : List Tie} (g : Good n ts) : (bothT ts).Nodup := by
  have hr := g.rng
  have hp := g.pw
  clear g
  induction ts with
  | nil => exact List.nodup_nil
  | cons t ts ih =>
    have hp := List.pairwise_cons.mp hp
    have ih := ih (fun u hu => hr u (List.mem_cons_of_mem _ hu)) hp.2
    have h1 := hr t List.mem_cons_self
    show ((t.1, t.2) :: (t.2, t.1) :: bothT ts).Nodup
    have n1 : (t.1, t.2) ∉ bothT ts := fun z => by
      rcases mem_both.mp z with z | z
      · exact (hp.1 _ z).1 rfl
      · have := (hp.1 _ z).2; exact this rfl
    have n2 : (t.2, t.1) ∉ bothT ts := fun z => by
      rcases mem_both.mp z with z | z
      · have := (hp.1 _ z).2; exact this rfl
      · exact (hp.1 _ z).1 rfl
    refine List.nodup_cons.mpr ⟨fun z => ?_, List.nodup_cons.mpr ⟨n2, ih⟩⟩
    rcases List.mem_cons.mp z with e | z
    · exact h1.2.2 (congrArg Prod.fst e)
    · exact n1 z
theorem both_darts {n : Nat} {ts : List Tie} (g : Good n ts) : (bothT ts).Perm (darts n (nearOf n ts)) := by
  have m := nearOf_mem n ts (fun s hs => ⟨(g.rng s hs).1, (g.rng s hs).2.1⟩)
  refine (List.perm_ext_iff_of_nodup (both_nd g) (darts_nodup g)).mpr fun s => ?_
  rw [mem_both, mem_darts, m]
  constructor
  · rintro (h | h)
    · exact ⟨(g.rng _ h).1, .inl h⟩
    · exact ⟨(g.rng _ h).2.1, .inr h⟩
  · rintro ⟨_, h | h⟩
    · exact .inl h
    · exact .inr h
noncomputable def leftL (f : Tie → Tie) (ts Q : List Tie) : List Tie := (bothT ts).filter fun t => Q.all fun u => !sR f u t
noncomputable def leftK (f : Tie → Tie) (ts Q : List Tie) (s : Tie) (k : Nat) : List Tie := (leftL f ts Q).filter fun t => decide (t ∉ (List.range k).map fun j => it f j s)
theorem drop_dict {L : List Tie} {t : Tie} {f : Tie → Sd} : dropA (dictT L f) (kT t) = dictT (L.filter fun u => decide (u ≠ t)) f := by
  unfold dropA dictT
  rw [List.filter_map]
  congr 1
  refine List.filter_congr fun u _ => ?_
  simp only [Function.comp]
  rw [decide_eq_decide]
  exact ⟨fun h e => h (by rw [e]), fun h e => h (kT_inj e)⟩
theorem leftK_succ {f : Tie → Tie} {ts Q : List Tie} {s : Tie} {k : Nat} : (leftK f ts Q s k).filter (fun u => decide (u ≠ it f k s)) = leftK f ts Q s (k + 1) := by
  unfold leftK
  rw [List.filter_filter]
  refine List.filter_congr fun u _ => ?_
  rw [List.range_succ, List.map_append, Bool.eq_iff_iff]
  simp only [Bool.and_eq_true, decide_eq_true_eq, List.mem_append, not_or, List.map_cons, List.map_nil, List.mem_singleton]
  exact and_comm
theorem leftK_zero {f : Tie → Tie} {ts Q : List Tie} {s : Tie} : leftK f ts Q s 0 = leftL f ts Q := by
  unfold leftK
  exact List.filter_eq_self.mpr fun u _ => by simp
/-! ### promises -/
def R_labels : Hp → Hp → List Sd → Sd → Prop := fun _ _ ss s => ∃ n ts, ss = [.d (dTies ts), sN n] ∧ n ≤ 16 ∧ (∀ t ∈ ts, t.1 < n ∧ t.2 < n) ∧ s = .d (dNs (labelsOf n ts))
def sp_l_labels (K : PySem.W.Frag) (C : Addr) : Sp := SpD R_labels
def R_firsts : Hp → Hp → List Sd → Sd → Prop := fun _ _ ss s => ∃ n ts turns, ss = [.d (dNear turns), .d (dTies ts)] ∧ n ≤ 16 ∧ ts.length ≤ 40 ∧ Tn n ts turns ∧ s = .d (dTies (reps (nxt turns) (darts n (nearOf n ts))))
def sp_l_firsts (K : PySem.W.Frag) (C : Addr) : Sp := SpD R_firsts
def R_is_flat : Hp → Hp → List Sd → Sd → Prop := fun _ _ ss s => ∃ n ts turns, ss = [.d (dNear turns), .d (dTies ts), sN n] ∧ n ≤ 16 ∧ ts.length ≤ 40 ∧ Tn n ts turns ∧ s = .d (.bool (flatR n ts turns))
def sp_l_is_flat (K : PySem.W.Frag) (C : Addr) : Sp := SpD R_is_flat
def swapAt (t : List Nat) (k : Nat) : List Nat := t.take k ++ [t.getD (k + 1) 0, t.getD k 0] ++ t.drop (k + 2)
def shakeL (turns : List (List Nat)) (c : Int) : List (List Nat) :=
  if 2 < (turns.getD (c % (turns.length : Int)).toNat []).length then turns.set (c % (turns.length : Int)).toNat (swapAt (turns.getD (c % (turns.length : Int)).toNat []) ((c / 16) % (((turns.getD (c % (turns.length : Int)).toNat []).length : Int) - 1)).toNat) else turns
def R_shaken : Hp → Hp → List Sd → Sd → Prop := fun _ _ ss s => ∃ (turns : List (List Nat)) (c : Int), ss = [.d (dNear turns), .d (.int c)] ∧ turns ≠ [] ∧ turns.length ≤ 16 ∧ (∀ t ∈ turns, t.length ≤ 1000) ∧ s = .d (dNear (shakeL turns c))
def sp_l_shaken (K : PySem.W.Frag) (C : Addr) : Sp := SpD R_shaken
def R_stays (C : Addr) : Hp → Hp → List Sd → Sd → Prop := fun _ _ ss s => ∃ n ts, ss = [.p (WebM C n (nearOf n ts)), .d (dTies ts), sN n] ∧ n ≤ 16 ∧ ts.length ≤ 40 ∧ Good n ts ∧ s = .d (.bool true)
def sp_l_stays (K : PySem.W.Frag) (C : Addr) : Sp := SpD (R_stays C)
def sp_law (K : PySem.W.Frag) (C : Addr) : Sp := fun vs H Q _ => ∃ (a : Addr) (ns : List Int), vs = [.ref a] ∧ SqL K H a (ns.map V.int) ∧ ns.length ≤ 63 ∧ ∀ H', Q (.bl true) H'
open DE (sp_drawn)
def N_l_labels : List Str := ["_law_ties_here", "_law_many_here", "_law_labels_here", "_law_tie", "_law_low", "_law_high", "_law_label"]
def t_l_labels (K : PySem.W.Frag) (C : Addr) : TS :=
  (tSeq (tAsg (tLstRg (tRg1 (tVar 1))) (gName 2))
  (tSeq (tFor (iList K (tVar 0)) (gName 3) (tSeq (tAsg (tCB xMin2 (tCons (tOp (rIx K) (tVar 2) (tOp (rIx K) (tVar 3) (tC (.int 0)))) (tCons (tOp (rIx K) (tVar 2) (tOp (rIx K) (tVar 3) (tC (.int 1)))) tNil))) (gName 4))
  (tSeq (tAsg (tCB xMax2 (tCons (tOp (rIx K) (tVar 2) (tOp (rIx K) (tVar 3) (tC (.int 0)))) (tCons (tOp (rIx K) (tVar 2) (tOp (rIx K) (tVar 3) (tC (.int 1)))) tNil))) (gName 5))
  (tAsg (tLc (iList K (tVar 2)) (gName 6) tYes (tIf (tTest (tOp rEq (tVar 6) (tVar 5))) (tVar 4) (tVar 6)) [6]) (gName 2)))))
  (tRet (tVar 2))))
def N_l_firsts : List Str := ["_law_turns", "_law_ties_here", "_law_left", "_law_tie", "_law_firsts_here", "_law_step", "_law_turn"]
def t_l_firsts (K : PySem.W.Frag) (C : Addr) : TS :=
  (tSeq (tAsg tDNewT (gName 2))
  (tSeq (tFor (iList K (tVar 1)) (gName 3) (tSeq (sDPut (tVar 2) (tVar 3) (tC (.bl true)))
  (sDPut (tVar 2) (tTup (tCons (tOp (rIx K) (tVar 3) (tC (.int 1))) (tCons (tOp (rIx K) (tVar 3) (tC (.int 0))) tNil))) (tC (.bl true)))))
  (tSeq (tAsg (tLst tNil) (gName 4))
  (tSeq (tFor (iList K (tCB FY.rSortedT2 (tCons (tVar 2) tNil))) (gName 5) (Evl.tCut (tIfS (tB (tDIn (tVar 5) (tVar 2))) (tDrop (tBM K "list" rAppend (tVar 4) (tCons (tVar 5) tNil))) tNext)
  (tWhile (tB (tDIn (tVar 5) (tVar 2))) (tSeq (tDrop (tBM K "dict" FJ.rPopT1 (tVar 2) (tCons (tVar 5) tNil)))
  (tSeq (tAsg (tOp (rIx K) (tVar 0) (tOp (rIx K) (tVar 5) (tC (.int 1)))) (gName 6))
  (tAsg (tTup (tCons (tOp (rIx K) (tVar 5) (tC (.int 1))) (tCons (tOp (rIx K) (tVar 6) (tOp (rI (fun _ j => 0 < j) fun i j => .int (i % j)) (tOp (rI0 fun i j => .int (i + j)) (tBM K "list" (rIndex K) (tVar 6) (tCons (tOp (rIx K) (tVar 5) (tC (.int 0))) tNil)) (tC (.int 1))) (tCB (xLen K) (tCons (tVar 6) tNil)))) tNil))) (gName 5)))))))
  (tRet (tVar 4))))))
def N_l_is_flat : List Str := ["_law_turns", "_law_ties_here", "_law_many_here", "_law_labels_here", "_law_firsts_here", "_law_label", "_law_own", "_law_points", "_law_seen", "_law_step", "_law_tie"]
def t_l_is_flat (K : PySem.W.Frag) (C : Addr) : TS :=
  (tSeq (tAsg (tCall (sp_l_labels K C) [] E0 (tCons (tVar 1) (tCons (tVar 2) tNil))) (gName 3))
  (tSeq (tAsg (tCall (sp_l_firsts K C) [] E0 (tCons (tVar 0) (tCons (tVar 1) tNil))) (gName 4))
  (tSeq (tFor (iRng1 (tCons (tVar 2) tNil)) (gName 5) (tSeq (tAsg (tCB (xLen K) (tCons (tLc (iList K (tVar 1)) (gName 10) (tTest (tOp rEq (tOp (rIx K) (tVar 3) (tOp (rIx K) (tVar 10) (tC (.int 0)))) (tVar 5))) (tVar 10) [10]) tNil)) (gName 6))
  (tSeq (tAsg (tBM K "list" (rCntI K) (tVar 3) (tCons (tVar 5) tNil)) (gName 7))
  (tSeq (tAsg (tLc (iList K (tVar 4)) (gName 9) (tTest (tOp rEq (tOp (rIx K) (tVar 3) (tOp (rIx K) (tVar 9) (tC (.int 0)))) (tVar 5))) (tVar 9) [9]) (gName 8))
  (tIfS (tAnd (tTest (tOp (rI0 fun i j => .bl (decide (j < i))) (tVar 6) (tC (.int 0)))) (tTest (tOp rNe (tCB (xLen K) (tCons (tVar 8) tNil)) (tOp (rI0 fun i j => .int (i + j)) (tOp (rI0 fun i j => .int (i - j)) (tVar 6) (tVar 7)) (tC (.int 2)))))) (tRet (tC (.bl false))) tNext)))))
  (tRet (tC (.bl true))))))
def N_l_shaken : List Str := ["_law_turns", "_law_cell", "_law_made", "_law_turn", "_law_at"]
def t_l_shaken (K : PySem.W.Frag) (C : Addr) : TS :=
  (tSeq (tAsg (tLc (iList K (tVar 0)) (gName 3) tYes (tCB (xListOf K) (tCons (tVar 3) tNil)) [3]) (gName 2))
  (tSeq (tAsg (tOp (rIx K) (tVar 2) (tOp (rI (fun _ j => 0 < j) fun i j => .int (i % j)) (tVar 1) (tCB (xLen K) (tCons (tVar 2) tNil)))) (gName 3))
  (Evl.tCut (tIfS (tTest (tOp (rI0 fun i j => .bl (decide (j < i))) (tCB (xLen K) (tCons (tVar 3) tNil)) (tC (.int 2)))) (tSeq (tAsg (tOp (rI (fun _ j => 0 < j) fun i j => .int (i % j)) (tOp (rI CDiv fun i j => .int (i / j)) (tVar 1) (tC (.int 16))) (tOp (rI0 fun i j => .int (i - j)) (tCB (xLen K) (tCons (tVar 3) tNil)) (tC (.int 1)))) (gName 4))
  (tAsg (tOp rCat (tOp rCat (tSl (rSlL K) (tVar 3) tNoPart (tPart (tVar 4))) (tLst (tCons (tOp (rIx K) (tVar 3) (tOp (rI0 fun i j => .int (i + j)) (tVar 4) (tC (.int 1)))) (tCons (tOp (rIx K) (tVar 3) (tVar 4)) tNil)))) (tSl (rSlL K) (tVar 3) (tPart (tOp (rI0 fun i j => .int (i + j)) (tVar 4) (tC (.int 2)))) tNoPart)) (gSub (tVar 2) (tOp (rI (fun _ j => 0 < j) fun i j => .int (i % j)) (tVar 1) (tCB (xLen K) (tCons (tVar 2) tNil))) rSetL))) tNext)
  (tRet (tVar 2)))))
def N_l_stays : List Str := ["_law_web", "_law_ties_here", "_law_many_here", "_law_tie", "_law_point"]
def t_l_stays (K : PySem.W.Frag) (C : Addr) : TS :=
  (tSeq (tIfS (tTest (tOp (rNeD K) (tMeth C "ties" (sp_Web_ties K C) [] E0 (tVar 0) tNil) (tCB (rSortedPO K) (tCons (tLc (iList K (tVar 1)) (gName 3) tYes (tTup (tCons (tCB (rMinT2 K) (tCons (tVar 3) tNil)) (tCons (tCB (rMaxT2 K) (tCons (tVar 3) tNil)) tNil))) [3]) tNil)))) (tRet (tC (.bl false))) tNext)
  (tSeq (tFor (iRng1 (tCons (tVar 2) tNil)) (gName 4) (tIfS (tTest (tOp (rNeD K) (tMeth C "beside" (sp_Web_beside K C) [] E0 (tVar 0) (tCons (tVar 4) tNil)) (tCB (rSortedI K) (tCons (tLc (iList K (tVar 1)) (gName 3) (tTest (tOp (rIn K false) (tVar 4) (tVar 3))) (tOp (rI0 fun i j => .int (i - j)) (tOp (rI0 fun i j => .int (i + j)) (tOp (rIx K) (tVar 3) (tC (.int 0))) (tOp (rIx K) (tVar 3) (tC (.int 1)))) (tVar 4)) [3]) tNil)))) (tRet (tC (.bl false))) tNext))
  (tRet (tC (.bl true)))))
def N_law : List Str := ["_law_script", "_law_many_here", "_law_ties_here", "_law_turns", "_law_web", "_law_cell", "_law_found", "_law_turn", "_law_other", "_law_handed", "_law_seen"]
def t_law (K : PySem.W.Frag) (C : Addr) : TS :=
  (tSeq (tAsg (tCall (sp_l_many K C) [] E0 (tCons (tVar 0) tNil)) (gName 1))
  (tSeq (tAsg (tCall (sp_l_ties K C) [] E0 (tCons (tVar 0) (tCons (tVar 1) tNil))) (gName 2))
  (tSeq (tAsg (tCall (sp_l_turns_by K C) [] E0 (tCons (tVar 0) (tCons (tVar 1) (tCons (tVar 2) tNil)))) (gName 3))
  (tSeq (tAsg (tMake C (sp_Web_init K C) [] E0 (tCons (tVar 1) (tCons (tCB (xListOf K) (tCons (tVar 2) tNil)) tNil))) (gName 4))
  (tSeq (tAsg (tCall (sp_l_cell_at K C) [] E0 (tCons (tVar 0) (tCons (tC (.int 3)) tNil))) (gName 5))
  (Evl.tCut (tIfS (tTest (tOp rEq (tOp (rI (fun _ j => 0 < j) fun i j => .int (i % j)) (tVar 5) (tC (.int 2))) (tC (.int 1)))) (tSeq (tAsg (tCall (sp_drawn K C) [] E0 (tCons (tVar 4) tNil)) (gName 6))
  (tIfS (tTest (tOp xNotN (tVar 6) (tC .non))) (tSeq (tAsg (tLc (iList K (tVar 6)) (gName 7) tYes (tCB (xListOf K) (tCons (tVar 7) tNil)) [7]) (gName 3))
  (tIfS (tTest (tOp rEq (tOp (rI (fun _ j => 0 < j) fun i j => .int (i % j)) (tOp (rI CDiv fun i j => .int (i / j)) (tVar 5) (tC (.int 2))) (tC (.int 3))) (tC (.int 1)))) (tAsg (tCall (sp_l_shaken K C) [] E0 (tCons (tVar 3) (tCons (tOp (rI CDiv fun i j => .int (i / j)) (tVar 5) (tC (.int 6))) tNil))) (gName 3)) tNext)) tNext)) tNext)
  (tSeq (tAsg (tCall (sp_l_turns_by K C) [] E0 (tCons (tVar 0) (tCons (tVar 1) (tCons (tVar 2) tNil)))) (gName 8))
  (tSeq (tIfS (tTest (tOp rNe (tCall (sp_flat K C) [] E0 (tCons (tVar 4) (tCons (tLc (iList K (tVar 8)) (gName 7) tYes (tCB (xListOf K) (tCons (tVar 7) tNil)) [7]) tNil))) (tCall (sp_l_is_flat K C) [] E0 (tCons (tVar 8) (tCons (tVar 2) (tCons (tVar 1) tNil)))))) (tRet (tC (.bl false))) tNext)
  (tSeq (tAsg (tLc (iList K (tVar 3)) (gName 7) tYes (tCB (xListOf K) (tCons (tVar 7) tNil)) [7]) (gName 9))
  (tSeq (tAsg (tCall (sp_flat K C) [] E0 (tCons (tVar 4) (tCons (tVar 9) tNil))) (gName 10))
  (tSeq (tIfS (tOr (tNot (tB (tCB (rIsi K) (tCons (tVar 10) (tCons (tC (.ty "bool")) tNil))))) (tOr (tTest (tOp rNe (tVar 10) (tCall (sp_l_is_flat K C) [] E0 (tCons (tVar 3) (tCons (tVar 2) (tCons (tVar 1) tNil)))))) (tTest (tOp (rNeD K) (tVar 9) (tVar 3))))) (tRet (tC (.bl false))) tNext)
  (tRet (tCall (sp_l_stays K C) [] E0 (tCons (tVar 4) (tCons (tVar 2) (tCons (tVar 1) tNil))))))))))))))))
section
variable {B : Base} {Δ : List Sd} {C : Cs} {σ : L2.St} {H F : Hp} {ta tb te : TE} {tu tz : TS} {D : Ends} {K : PySem.W.Frag}
theorem q_popT {k : Nat} {l : Addr} {kvs : List (List Key × Sd)} {x : List Key} {s : Sd} (hc : C[k]? = some (l, .dt kvs)) (ho : Ev B Δ C ta (.v (.ref l))) (hx : Ev B Δ C te (.d (.tuple (x.map keyD)))) (hv : lookA kvs x = some s)
    (kk : WP B Δ (C.set k (l, .dt (dropA kvs x))) tz D) : WP B Δ C (tSeq (tDrop (tBM K "dict" FJ.rPopT1 ta (tCons te tNil))) tz) D := fun σ H ⟨F, hs⟩ =>
  ho σ H F hs _ fun v F1 H1 h1 e1 e1' w => by
    cases w
    obtain ⟨vs, hxx, _⟩ := cell_dt h1 hc
    refine ⟨.inr (.inr (.inl ⟨rfl, .inr ⟨vs, hxx⟩⟩)), hx σ H1 F1 h1 _ fun y F2 H2 h2 e2 e2' w2 => ?_⟩
    obtain ⟨b, xs, rfl, hb, rx⟩ := Rep.tup_inv w2
    rw [rx.keys] at hb
    obtain ⟨vs, hv2, kv⟩ := cell_dt h2 hc
    obtain ⟨u, hu, _⟩ := kv.of_look hv
    exact ⟨l, vs, x, b, u, rfl, rfl, hv2, h2.fh _ _ hb, hu, kk _ _ ⟨F2, h2.put hc ⟨_, rfl, kv.drop x⟩⟩⟩
end
section
variable {K : PySem.W.Frag} {C : Addr} {vs : List V} {H : Hp} {Q : VK} {E : XK}
theorem lab_get {L : List Nat} {x : Nat} (h : x < L.length) : L[x]? = some (lab L x) := by
  unfold lab; rw [List.getD_eq_getElem?_getD, List.getElem?_eq_getElem h]; rfl
theorem pure_l_labels (h : sp_l_labels K C vs H Q E) : t_l_labels K C { nx := fun _ H' => Q .non H', rt := Q } (L2.start N_l_labels vs) H := by
  refine enterD h fun F ss s hf ha hR hq => ?_
  obtain ⟨n, ts, rfl, h16, hr, rfl⟩ := hR
  refine ⟨_, ha, ?_⟩
  show WP ⟨F, H, []⟩ [.d (dTies ts), sN n, .no, .no, .no, .no, .no] [] (t_l_labels K C) _
  refine q_asg (s := .d (dNs (List.range n))) (ev_of' ((List.range n).map dN) (evN_listRg (ev_var rfl rfl)) (by rw [List.map_map]; rfl)) ?_
  refine q_for1 (α := Unit) dTie (Src.list (ev_var rfl rfl)) (fun _ _ => True) (fun i _ => [.d (dTies ts), sN n, .d (dNs (labelsOf n (ts.take i))), .any, .any, .any, .any]) (fun _ _ => []) (fun G => nx_inv () trivial) ?_ ?_
  · intro G i _ t ht _
    have htr := hr t (List.mem_of_getElem? ht)
    have hL := labelsOf_ok n (ts.take i) fun t ht => hr t (List.mem_of_mem_take ht)
    have hsn : labelsOf n (ts.take (i + 1)) = mergeLab (labelsOf n (ts.take i)) t := by rw [take_succ ht, labelsOf_snoc]
    generalize labelsOf n (ts.take i) = L at hL hsn
    have e1 : ∀ {B' Δ C' j}, Δ[2]? = some (.d (dNs L)) → Δ[3]? = some (sTie t) → j = 0 ∨ j = 1 → Ev B' Δ C' (tOp (rIx K) (tVar 2) (tOp (rIx K) (tVar 3) (tC (.int (j : Nat))))) (sN (lab L (if j = 0 then t.1 else t.2))) := by
      intro B' Δ C' j h2 h3 hj
      rcases hj with rfl | rfl
      · exact ev_op (ev_var h2 rfl) (ev_op (ev_var h3 rfl) ev_int (rv_xT (atI_nat (j := 0) rfl))) (rv_xL (atI_mapN dN (lab_get (by rw [hL.len]; exact htr.1))))
      · exact ev_op (ev_var h2 rfl) (ev_op (ev_var h3 rfl) ev_int (rv_xT (atI_nat (j := 1) rfl))) (rv_xL (atI_mapN dN (lab_get (by rw [hL.len]; exact htr.2))))
    refine q_asg (s := sN (min (lab L t.1) (lab L t.2))) (ev_eq (ev_cb (ea_cons (e1 (j := 0) rfl rfl (.inl rfl)) (ea_cons (e1 (j := 1) rfl rfl (.inr rfl)) ea_nil)) rc_min2) (by show Sd.d (.int _) = Sd.d (.int _); congr 2; show min ((lab L t.1 : Nat) : Int) (lab L t.2 : Nat) = _; omega)) ?_
    refine q_asg (s := sN (max (lab L t.1) (lab L t.2))) (ev_eq (ev_cb (ea_cons (e1 (j := 0) rfl rfl (.inl rfl)) (ea_cons (e1 (j := 1) rfl rfl (.inr rfl)) ea_nil)) rc_max2) (by show Sd.d (.int _) = Sd.d (.int _); congr 2; show max ((lab L t.1 : Nat) : Int) (lab L t.2 : Nat) = _; omega)) ?_
    refine s_asg (s := .d (dNs (mergeLab L t))) (ev_of' ((mergeLab L t).map dN) (evN_lc1A dN (fun l => sN (if l = max (lab L t.1) (lab L t.2) then min (lab L t.1) (lab L t.2) else l)) (Src.list (ev_var rfl rfl)) (fun B' l le hl => ?_) (by rw [hL.len]; omega)) (by unfold mergeLab; rw [List.map_map, List.map_map]; rfl)) (nx_inv () trivial (w := ?_))
    · refine ev_if (b := decide (l = max (lab L t.1) (lab L t.2))) (evT_eq (et_B (ev_op (ev_var rfl rfl) (ev_var rfl rfl) rv_eqI)) ?_) (fun c => ?_) (fun c => ?_)
      · by_cases z : l = max (lab L t.1) (lab L t.2)
        · rw [decide_eq_true z]; simp [z]
        · have z' : ¬ (l : Int) = ((max (lab L t.1) (lab L t.2) : Nat) : Int) := by omega
          rw [decide_eq_false z, decide_eq_false z']
      · rw [if_pos (of_decide_eq_true c)]; exact ev_var rfl rfl
      · rw [if_neg (of_decide_eq_false c)]; exact ev_var rfl rfl
    · rw [hsn]
      repeat (first | exact Wk.nil | apply Wk.any | apply Wk.same)
  · intro _ _
    rw [List.take_length]
    exact s_ret (ev_var rfl rfl) hq
theorem pure_l_stays (w : WebC K C) (h : sp_l_stays K C vs H Q E) : t_l_stays K C { nx := fun _ H' => Q .non H', rt := Q } (L2.start N_l_stays vs) H := by
  refine enterD h fun F ss s hf ha hR hq => ?_
  obtain ⟨n, ts, rfl, h16, h40, g, rfl⟩ := hR
  refine ⟨_, ha, ?_⟩
  have hok := nearOf_ok g h16
  have hlen := nearOf_len n ts
  show WP ⟨F, H, []⟩ [.p (WebM C n (nearOf n ts)), .d (dTies ts), sN n, .no, .no] [] (t_l_stays K C) _
  have e1 : (sortP (ts.map normT)).map dP = (tiesOf n (nearOf n ts)).map dTie := by rw [due_ties g, List.map_map]; rfl
  refine q_no (et_test (ev_op (ev_of' ((tiesOf n (nearOf n ts)).map dTie) (evN_meth (ev_var rfl rfl) (fun F' v hv => selfI hv) ea_nil fun _ _ _ _ => ⟨n, nearOf n ts, rfl, hlen, hok, rfl⟩) (by rw [List.map_map]; rfl)) (ev_of' ((tiesOf n (nearOf n ts)).map dTie) (evN_cb (ea_cons (ev_of' ((ts.map normT).map dP) (evN_lc1A dTie (fun t => .d (dP (normT t))) (Src.list (ev_var rfl rfl)) (fun B' t le ht => ?_) (by omega)) (by simp)) ea_nil) rcN_sortP) (by rw [← e1, List.map_map]; rfl)) (rv_neG (f := dTies) (a := tiesOf n (nearOf n ts)) (b := tiesOf n (nearOf n ts)) faith_ties (sh_ties _) (sh_ties _)))) (by simp) ?_
  · exact ev_tup2 (ev_cb (ea_cons (ev_var rfl rfl) ea_nil) rc_minT) (ev_cb (ea_cons (ev_var rfl rfl) ea_nil) rc_maxT)
  refine q_for1 (α := Unit) dN (Src.rN (ea_cons (ev_var rfl rfl) ea_nil)) (fun _ _ => True) (fun _ _ => [.p (WebM C n (nearOf n ts)), .d (dTies ts), sN n, .any, .any]) (fun _ _ => []) (fun G => nx_inv () trivial) ?_ (fun _ _ => s_ret ev_bl hq)
  intro G i _ p hp _
  have hpn : p < n := by rw [← List.mem_range]; exact List.mem_of_getElem? hp
  refine s_no (et_test (ev_op (ev_of' (((nearOf n ts).getD p []).map dN) (evN_meth (ev_var rfl rfl) (fun F' v hv => selfI hv) (ea_cons (ev_var rfl rfl) ea_nil) fun _ _ _ _ => ⟨n, nearOf n ts, p, rfl, hlen, hpn, rfl⟩) (by rw [List.map_map]; rfl)) (ev_of' (((nearOf n ts).getD p []).map dN) (evN_cb (ea_cons (ev_eq (ev_of' (((ts.filter (hasP p)).map (oth p)).map dN) (evN_lc1 dTie (hasP p) (fun t => sN (oth p t)) (Src.list (ev_var rfl rfl)) (fun B' t le htm => ?_) (fun B' t le htm hh => ?_) (by omega)) (by rw [List.map_map, List.map_map]; rfl)) (show Sd.d (dNs ((ts.filter (hasP p)).map (oth p))) = .d (.list ((((ts.filter (hasP p)).map (oth p)).map fun k : Nat => (k : Int)).map .int)) by rw [List.map_map (g := PyData.int)]; rfl)) ea_nil) rcN_sorted) ?_) (rv_neG (f := dNs) (a := (nearOf n ts).getD p []) (b := (nearOf n ts).getD p []) faith_ns (sh_ns _) (sh_ns _)))) (by simp) (nx_inv () trivial)
  · refine evT_eq (et_test (ev_op (ev_var rfl rfl) (ev_var rfl rfl) (rv_inTI (ns := [(t.1 : Int), (t.2 : Int)])))) ?_
    unfold hasP
    rw [Bool.eq_iff_iff]
    simp only [decide_eq_true_eq, List.mem_cons, List.not_mem_nil, or_false, Bool.or_eq_true]
    omega
  · refine ev_eq (ev_op (ev_op (ev_op (ev_var rfl rfl) ev_int (rv_xT (atI_nat (j := 0) rfl))) (ev_op (ev_var rfl rfl) ev_int (rv_xT (atI_nat (j := 1) rfl))) rv_ii) (ev_var rfl rfl) rv_ii) ?_
    show Sd.d (.int (((t.1 : Nat) : Int) + (t.2 : Nat) - (p : Nat))) = Sd.d (.int ((oth p t : Nat) : Int))
    congr 2
    unfold oth
    rcases hasP_iff.mp hh with e | e <;> omega
  · rw [sortI_nat, own_sort g]; simp only [List.map_map]; rfl
theorem sort_darts {n : Nat} {ts : List Tie} (g : Good n ts) : sortP ((bothT ts).map intT) = (darts n (nearOf n ts)).map intT :=
  (sortP_uniq ((both_darts g).map intT).symm ((darts_pw (nearOf n ts) (nearOf_row n ts g) n).imp fun h => h.1)).symm
theorem good_take {n : Nat} {ts : List Tie} (g : Good n ts) (i : Nat) : Good n (ts.take i) := ⟨fun t ht => g.rng t (List.mem_of_mem_take ht), g.pw.sublist (List.take_sublist _ _)⟩
theorem mem_leftL {f : Tie → Tie} {ts Q : List Tie} {t : Tie} : t ∈ leftL f ts Q ↔ t ∈ bothT ts ∧ ∀ u ∈ Q, ¬ Same f u t := by
  unfold leftL
  rw [List.mem_filter, List.all_eq_true]
  refine and_congr_right fun _ => ⟨fun h u hu z => ?_, fun h u hu => ?_⟩
  · have := h u hu
    rw [sR_iff.mpr z] at this; cases this
  · cases q : sR f u t with
    | false => rfl
    | true => exact absurd (sR_iff.mp q) (h u hu)
theorem mem_leftK {f : Tie → Tie} {ts Q : List Tie} {s t : Tie} {k : Nat} : t ∈ leftK f ts Q s k ↔ t ∈ leftL f ts Q ∧ ∀ j, j < k → it f j s ≠ t := by
  unfold leftK
  rw [List.mem_filter, decide_eq_true_eq, List.mem_map]
  refine and_congr_right fun _ => ⟨fun h j hj e => h ⟨j, List.mem_range.mpr hj, e⟩, fun h ⟨j, hj, e⟩ => h j (List.mem_range.mp hj) e⟩
section
variable {n : Nat} {ts : List Tie} {turns : List (List Nat)}
theorem left_in (ht : Tn n ts turns) {Q : List Tie} {s : Tie} (hs : s ∈ darts n (nearOf n ts)) (hl : s ∈ leftL (nxt turns) ts Q) (hQ : ∀ u ∈ Q, u ∈ darts n (nearOf n ts)) {k : Nat} (hk : k < per (nxt turns) s) : it (nxt turns) k s ∈ leftK (nxt turns) ts Q s k := by
  have r := ht.rnd
  have hm := r.it_mem hs k
  rw [mem_leftK, mem_leftL]
  refine ⟨⟨(both_darts ht.g).mem_iff.mpr hm, fun u hu z => (mem_leftL.mp hl).2 u hu (z.trans (r.symm hs ⟨k, rfl⟩))⟩, fun j hj e => ?_⟩
  obtain ⟨hp, _⟩ := r.per hs
  exact hp.2.2 (k - j) (by omega) (by omega) (r.back hs (Nat.le_of_lt hj) e)
theorem left_end (ht : Tn n ts turns) {Q : List Tie} {s : Tie} (hs : s ∈ darts n (nearOf n ts)) : leftK (nxt turns) ts Q s (per (nxt turns) s) = leftL (nxt turns) ts (Q ++ [s]) := by
  unfold leftK leftL
  rw [List.filter_filter]
  refine List.filter_congr fun t _ => ?_
  rw [List.all_append, Bool.and_comm]
  congr 1
  have := ht.rnd.mem_orb hs (t := t)
  unfold orb at this
  rw [Bool.eq_iff_iff, decide_eq_true_eq, this]
  simp only [List.all_cons, List.all_nil, Bool.and_true, Bool.not_eq_true']
  constructor
  · intro h
    cases q : sR (nxt turns) s t with
    | false => rfl
    | true => exact absurd (sR_iff.mp q) h
  · intro h z
    rw [sR_iff.mpr z] at h; cases h
theorem left_out {Q : List Tie} {s : Tie} (hb : s ∈ bothT ts) (hl : s ∉ leftL (nxt turns) ts Q) : leftL (nxt turns) ts Q = leftL (nxt turns) ts (Q ++ [s]) := by
  have hu : ∃ u ∈ Q, Same (nxt turns) u s := Classical.byContradiction fun z => hl (mem_leftL.mpr ⟨hb, fun u hu h => z ⟨u, hu, h⟩⟩)
  obtain ⟨u, hu, hus⟩ := hu
  unfold leftL
  refine List.filter_congr fun t _ => ?_
  rw [List.all_append]
  cases q : sR (nxt turns) s t with
  | false => simp [q]
  | true =>
    have : (Q.all fun u => !sR (nxt turns) u t) = false := List.all_eq_false.mpr ⟨u, hu, by rw [sR_iff.mpr (hus.trans (sR_iff.mp q))]; decide⟩
    rw [this]; rfl
end
section
variable {K : PySem.W.Frag} {C : Addr} {vs : List V} {H : Hp} {Q : VK} {E : XK}
theorem pure_l_firsts (h : sp_l_firsts K C vs H Q E) : t_l_firsts K C { nx := fun _ H' => Q .non H', rt := Q } (L2.start N_l_firsts vs) H := by
  refine enterD h fun F ss s hf ha hR hq => ?_
  obtain ⟨n, ts, turns, rfl, hn, hts, ht, rfl⟩ := hR
  refine ⟨_, ha, ?_⟩
  show WP ⟨F, H, []⟩ [.d (dNear turns), .d (dTies ts), .no, .no, .no, .no, .no] [] (t_l_firsts K C) _
  have rnd := ht.rnd
  have hDl := darts_len ht.g hn
  have hbd := both_darts ht.g
  have hbl := hbd.length_eq
  refine q_new evN_dnewT fun ld hld => ?_
  have hld : H ld = none := hld
  refine q_for1 (α := Unit) dTie (Src.list (ev_var rfl rfl)) (fun _ _ => True) (fun _ _ => [.d (dNear turns), .d (dTies ts), .v (.ref ld), .any, .no, .no, .no]) (fun i _ => [(ld, .dt (gonD (bothT (ts.take i))))]) (fun G => nx_inv () trivial) ?_ ?_
  · intro G i _ t hti _
    have hnd := both_nd (good_take ht.g (i + 1))
    have hil := List.length_take_le' i ts
    have hbi : (bothT (ts.take i)).length ≤ 1000 := by rw [DV.both_len]; omega
    rw [take_succ hti, bothT_snoc] at hnd
    rw [take_succ hti, bothT_snoc]
    generalize bothT (ts.take i) = L at hnd hbi
    have n1 : (t.1, t.2) ∉ L := fun z => (List.nodup_append.mp (List.nodup_append.mp hnd).1).2.2 _ z _ (by simp) rfl
    have n2 : (t.2, t.1) ∉ L ++ [(t.1, t.2)] := fun z => (List.nodup_append.mp hnd).2.2 _ z _ (by simp) rfl
    refine q_dputT (k := 0) (x := kT t) (s := .d (.bool true)) rfl ev_bl (ev_var rfl rfl) (ev_var rfl rfl) ?_ (by unfold gonD dictT; rw [List.length_map]; omega)
    have e1 : putA (gonD L) (kT t) (.d (.bool true)) = gonD (L ++ [(t.1, t.2)]) := putT_new (f := fun _ => Sd.d (.bool true)) n1
    rw [e1]
    refine s_dputT (k := 0) (x := kT (t.2, t.1)) (s := .d (.bool true)) rfl ev_bl (ev_var rfl rfl) (ev_tup2 (a := dN t.2) (b := dN t.1) (ev_op (ev_var rfl rfl) ev_int (rv_xT (d := dN t.2) (atI_nat (j := 1) rfl))) (ev_op (ev_var rfl rfl) ev_int (rv_xT (d := dN t.1) (atI_nat (j := 0) rfl)))) (nx_inv () trivial (hC := ?_)) (by unfold gonD dictT; rw [List.length_map, List.length_append]; simp; omega)
    have e2 : putA (gonD (L ++ [(t.1, t.2)])) (kT (t.2, t.1)) (.d (.bool true)) = gonD (L ++ [(t.1, t.2)] ++ [(t.2, t.1)]) := putT_new (f := fun _ => Sd.d (.bool true)) n2
    rw [e2]; rfl
  intro _ _
  rw [List.take_length]
  refine q_new evN_lst0 fun fl hfl => ?_
  have hfl : H fl = none := hfl
  refine q_for1 (α := Unit) dTie (as := darts n (nearOf n ts)) (Src.list (ev_of' ((darts n (nearOf n ts)).map dTie) (evN_cb (ea_cons (ev_var rfl rfl) ea_nil) (rcN_sortT2 (k := 1) (ps := (bothT ts).map intT) rfl (by unfold gonD dictT; rw [List.map_map, List.map_map]; rfl))) (by rw [sort_darts ht.g, List.map_map, List.map_map]; rfl))) (fun _ _ => True) (fun _ _ => [.d (dNear turns), .d (dTies ts), .v (.ref ld), .any, .v (.ref fl), .any, .any]) (fun i _ => [(fl, .lst ((reps (nxt turns) ((darts n (nearOf n ts)).take i)).map sTie)), (ld, .dt (gonD (leftL (nxt turns) ts ((darts n (nearOf n ts)).take i))))]) (fun G => nx_inv () trivial (hC := ?_)) ?_ ?_
  · have : leftL (nxt turns) ts [] = bothT ts := List.filter_eq_self.mpr fun _ _ => rfl
    rw [List.take_zero, this]; rfl
  · intro G i _ s hsi _
    have hsD := List.mem_of_getElem? hsi
    have hsB := hbd.mem_iff.mpr hsD
    have hQ : ∀ u ∈ (darts n (nearOf n ts)).take i, u ∈ darts n (nearOf n ts) := fun u hu => List.mem_of_mem_take hu
    have hrl : (reps (nxt turns) ((darts n (nearOf n ts)).take i)).length ≤ 256 := by
      unfold reps
      rw [List.length_map]
      have h1 := List.length_filter_le (isMin (sR (nxt turns)) ((darts n (nearOf n ts)).take i)) (List.range ((darts n (nearOf n ts)).take i).length)
      rw [List.length_range] at h1
      have h2 := List.length_take_le' i (darts n (nearOf n ts))
      omega
    rw [take_succ hsi]
    generalize (darts n (nearOf n ts)).take i = Qd at hQ hrl
    have hall : Qd.all (fun u => !sR (nxt turns) u s) = decide (s ∈ leftL (nxt turns) ts Qd) := by
      rw [Bool.eq_iff_iff, decide_eq_true_eq]
      unfold leftL
      rw [List.mem_filter]
      exact ⟨fun h => ⟨hsB, h⟩, fun h => h.2⟩
    refine q_cut (Δ' := [.d (dNear turns), .d (dTies ts), .v (.ref ld), .any, .v (.ref fl), .d (dTie s), .any]) (C' := [(fl, .lst ((reps (nxt turns) (Qd ++ [s])).map sTie)), (ld, .dt (gonD (leftL (nxt turns) ts Qd)))]) ?_ ?_
    · refine s_when (b := decide (s ∈ leftL (nxt turns) ts Qd)) (evT_eq (et_B (ev_dinT (k := 1) (x := kT s) rfl (ev_var rfl rfl) (ev_var rfl rfl))) gon_some) (fun c => ?_) (fun c => ?_)
      · refine s_app (k := 0) (s := sTie s) rfl (ev_var rfl rfl) (ev_var rfl rfl) (nx_is (hC := ?_)) (by rw [List.length_map]; omega)
        rw [reps_snoc, hall, if_pos c, List.map_append]; rfl
      · refine nx_is (hC := ?_)
        rw [reps_snoc, hall, if_neg (by rw [c]; decide), List.append_nil]
    obtain ⟨hper, _⟩ := rnd.per hsD
    refine s_while (α := Nat) (fun k => (s ∈ leftL (nxt turns) ts Qd ∧ k ≤ per (nxt turns) s) ∨ (s ∉ leftL (nxt turns) ts Qd ∧ k = 0)) (fun k => per (nxt turns) s - k) (fun k => [.d (dNear turns), .d (dTies ts), .v (.ref ld), .any, .v (.ref fl), .d (dTie (it (nxt turns) k s)), .any]) (fun k => [(fl, .lst ((reps (nxt turns) (Qd ++ [s])).map sTie)), (ld, .dt (gonD (leftK (nxt turns) ts Qd s k)))]) (fun k => decide (it (nxt turns) k s ∈ leftK (nxt turns) ts Qd s k)) ?_ ?_ ?_ ?_
    · refine nx_inv 0 ?_ (hC := ?_)
      · by_cases c : s ∈ leftL (nxt turns) ts Qd
        · exact .inl ⟨c, Nat.zero_le _⟩
        · exact .inr ⟨c, rfl⟩
      · rw [leftK_zero]
    · intro k _
      exact evT_eq (et_B (ev_dinT (k := 1) (x := kT (it (nxt turns) k s)) rfl (ev_var rfl rfl) (ev_var rfl rfl))) gon_some
    · intro k hk htst
      have htst : it (nxt turns) k s ∈ leftK (nxt turns) ts Qd s k := of_decide_eq_true htst
      obtain ⟨hl, hkp⟩ : s ∈ leftL (nxt turns) ts Qd ∧ k < per (nxt turns) s := by
        rcases hk with ⟨h1, h2⟩ | ⟨h1, rfl⟩
        · refine ⟨h1, Nat.lt_of_le_of_ne h2 fun e => ?_⟩
          have := (mem_leftK.mp htst).2 0 (by have := hper.1; omega)
          rw [e, hper.2.1] at this
          exact this rfl
        · rw [leftK_zero] at htst
          exact absurd htst h1
      have hitD := rnd.it_mem hsD k
      obtain ⟨m1, m2⟩ := mem_darts.mp hitD
      have hb : (it (nxt turns) k s).2 < turns.length := by rw [ht.len]; exact (mem_near ht.g m2).2.1
      have hab : (it (nxt turns) k s).1 ∈ turns.getD (it (nxt turns) k s).2 [] := ht.mem.mpr (near_sym ht.g _ _ m2)
      refine q_popT (k := 1) (x := kT (it (nxt turns) k s)) (s := .d (.bool true)) rfl (ev_var rfl rfl) (ev_var rfl rfl) (lookT htst) ?_
      have e1 : dropA (gonD (leftK (nxt turns) ts Qd s k)) (kT (it (nxt turns) k s)) = gonD (leftK (nxt turns) ts Qd s (k + 1)) := by
        unfold gonD; rw [drop_dict, leftK_succ]
      rw [e1]
      have hstep : it (nxt turns) (k + 1) s = ((it (nxt turns) k s).2, succT (turns.getD (it (nxt turns) k s).2 []) (it (nxt turns) k s).1) := rfl
      generalize it (nxt turns) k s = st at hb hab hstep
      refine q_asg (s := .d (dNs (turns.getD st.2 []))) (ev_op (ev_var rfl rfl) (ev_op (ev_var rfl rfl) ev_int (rv_xT (d := dN st.2) (atI_nat (j := 1) rfl))) (rv_xL (atI_mapN dNs (row_at rfl hb)))) ?_
      have hl0 : 0 < (turns.getD st.2 []).length := List.length_pos_of_mem hab
      refine s_asg (s := .d (dTie (st.2, succT (turns.getD st.2 []) st.1))) (ev_tup2 (a := dN st.2) (b := dN (succT (turns.getD st.2 []) st.1)) (ev_op (ev_var rfl rfl) ev_int (rv_xT (d := dN st.2) (atI_nat (j := 1) rfl))) (ev_op (ev_var rfl rfl) (ev_eq (ev_op (ev_op (ev_index (ev_var rfl rfl) (ev_op (ev_var rfl rfl) ev_int (rv_xT (d := dN st.1) (atI_nat (j := 0) rfl))) hab) ev_int rv_ii) (ev_cb (ea_cons (ev_var rfl rfl) ea_nil) rc_lenL) (rv_iC (P := fun _ j => 0 < j) (by rw [List.length_map]; omega))) (show _ = sN (((turns.getD st.2 []).idxOf st.1 + 1) % (turns.getD st.2 []).length) by
        show Sd.d (.int _) = Sd.d (.int _)
        congr 2
        rw [List.length_map]
        exact (Int.natCast_emod _ _).symm)) (rv_xL (atI_mapN dN (succT_at hab))))) (nx_inv (k + 1) ⟨.inl ⟨hl, hkp⟩, by omega⟩ (w := ?_))
      rw [hstep]
      repeat (first | exact Wk.nil | apply Wk.any | apply Wk.same)
    · intro k hk htst
      have htst : it (nxt turns) k s ∉ leftK (nxt turns) ts Qd s k := of_decide_eq_false htst
      have hfin : leftK (nxt turns) ts Qd s k = leftL (nxt turns) ts (Qd ++ [s]) := by
        rcases hk with ⟨h1, h2⟩ | ⟨h1, rfl⟩
        · have : k = per (nxt turns) s := by
            rcases Nat.lt_or_ge k (per (nxt turns) s) with c | c
            · exact absurd (left_in ht hsD h1 hQ c) htst
            · omega
          subst this
          exact left_end ht hsD
        · rw [leftK_zero]
          exact left_out hsB h1
      rw [hfin]
      exact nx_inv () trivial
  · intro _ _
    rw [List.take_length]
    exact s_retC (ds := (reps (nxt turns) (darts n (nearOf n ts))).map dTie) (k := 0) (by rw [List.map_map]; rfl) (ev_var rfl rfl) hq (by simp; exact ⟨hfl, hld⟩)
end
end
theorem count_nat (a : Nat) : ∀ t : List Nat, (t.map fun k : Nat => (k : Int)).count (a : Int) = t.count a
  | [] => rfl
  | x :: t => by
    rw [List.map_cons, List.count_cons, List.count_cons, count_nat a t]
    congr 1
    by_cases c : x = a
    · subst c; simp
    · have : ¬ (x : Int) = (a : Int) := by omega
      simp [c, this]
section
variable {B : Base} {Δ : List Sd} {C : Cs} {ta tb te : TE} {tu tz : TS} {D : Ends} {K : PySem.W.Frag}
/-- xs.count(x) -/
theorem ev_count {t : List Nat} {a : Nat} (h : Ev B Δ C ta (.d (dNs t))) (he : Ev B Δ C te (sN a)) : Ev B Δ C (tBM K "list" (rCntI K) ta (tCons te tNil)) (sN (t.count a)) := fun σ H F hs Q q =>
  h σ H F hs _ fun v F1 H1 h1 e1 e1' w1 => by
    obtain ⟨p, xs, rfl, e, r⟩ := Rep.lst_inv w1
    refine ⟨.inl ⟨rfl, xs, SqL.of (h1.fh _ _ e)⟩, he σ H1 F1 h1 _ fun y F2 H2 h2 e2 e2' w2 => ?_⟩
    cases w2
    have ex : xs = (t.map fun k : Nat => (k : Int)).map V.int := by
      have e3 : t.map dN = (t.map fun k : Nat => (k : Int)).map PyData.int := by rw [List.map_map]; rfl
      rw [e3] at r
      exact r.ints
    subst ex
    refine ⟨p, _, (a : Int), rfl, rfl, SqL.of (h2.fh _ _ (e2 _ _ e)), ?_⟩
    rw [count_nat]
    exact (q.later (e1.trans e2) (e1'.trans e2')).now h2 (.int _)
theorem nx_to {i : Nat} {s s' : Sd} {P : L2.St → Hp → Prop} (hi : Δ[i]? = some s) (hf : s.full = true) (hm : ∀ F v, SlV F v s → SlV F v s') (h : Nx B (Δ.set i s') C P) : Nx B Δ C P := fun σ H ⟨F, hs⟩ => by
  obtain ⟨o, ho, w⟩ := hs.sl.get hi
  obtain ⟨v, rfl, w⟩ := w.some hf
  exact h σ H ⟨F, hs.slots (FR.Sl.reset hs.sl ho (show SlO F (some v) s' from hm F v w))⟩
/-- a slot that holds some data with a property is opened -/
theorem wp_open {i : Nat} {P : PyData → Prop} (hi : Δ[i]? = some (.p (FU.DM P))) (h : ∀ d, P d → WP B (Δ.set i (.d d)) C tu D) : WP B Δ C tu D := fun σ H ⟨F, hs⟩ => by
  obtain ⟨o, ho, w⟩ := hs.sl.get hi
  obtain ⟨v, rfl, w⟩ := w.some rfl
  obtain ⟨d, hd, r⟩ := w
  exact h d hd σ H ⟨F, hs.slots (FR.Sl.reset hs.sl ho (show SlO F (some v) (.d d) from r))⟩
end
section
variable {K : PySem.W.Frag} {C : Addr} {vs : List V} {H : Hp} {Q : VK} {E : XK}
theorem pure_l_is_flat (h : sp_l_is_flat K C vs H Q E) : t_l_is_flat K C { nx := fun _ H' => Q .non H', rt := Q } (L2.start N_l_is_flat vs) H := by
  refine enterD h fun F ss s hf ha hR hq => ?_
  obtain ⟨n, ts, turns, rfl, hn, hts, ht, rfl⟩ := hR
  refine ⟨_, ha, ?_⟩
  show WP ⟨F, H, []⟩ [.d (dNear turns), .d (dTies ts), sN n, .no, .no, .no, .no, .no, .no, .no, .no] [] (t_l_is_flat K C) _
  have hr : ∀ t ∈ ts, t.1 < n ∧ t.2 < n := fun t ht' => ⟨(ht.g.rng t ht').1, (ht.g.rng t ht').2.1⟩
  have hL := labelsOf_ok n ts hr
  have hfl := flat_law ht hn hL
  have hDl := darts_len ht.g hn
  have hrl : (reps (nxt turns) (darts n (nearOf n ts))).length ≤ 256 := by
    unfold reps
    rw [List.length_map]
    have h1 := List.length_filter_le (isMin (sR (nxt turns)) (darts n (nearOf n ts))) (List.range (darts n (nearOf n ts)).length)
    rw [List.length_range] at h1
    omega
  refine q_asg (s := .d (dNs (labelsOf n ts))) (ev_call (ea_cons (ev_var rfl rfl) (ea_cons (ev_var rfl rfl) ea_nil)) fun _ _ _ _ => ⟨n, ts, rfl, hn, hr, rfl⟩) ?_
  refine q_asg (s := .d (dTies (reps (nxt turns) (darts n (nearOf n ts))))) (ev_call (ea_cons (ev_var rfl rfl) (ea_cons (ev_var rfl rfl) ea_nil)) fun _ _ _ _ => ⟨n, ts, turns, rfl, hn, hts, ht, rfl⟩) ?_
  generalize labelsOf n ts = L at hL hfl
  refine q_for1 (α := Unit) dN (Src.rN (ea_cons (ev_var rfl rfl) ea_nil)) (fun i _ => ((List.range n).take i).all (okL n ts turns L) = true) (fun _ _ => [.d (dNear turns), .d (dTies ts), sN n, .d (dNs L), .d (dTies (reps (nxt turns) (darts n (nearOf n ts)))), .any, .any, .any, .any, .any, .any]) (fun _ _ => []) (fun G => nx_inv () rfl) ?_ ?_
  · intro G i _ l hl hI
    have hlm := List.mem_of_getElem? hl
    have lt : ∀ {B' Δ' C'} {j : Nat} {t : Tie}, Δ'[3]? = some (.d (dNs L)) → Δ'[j]? = some (.d (dTie t)) → Δ'[5]? = some (sN l) → t.1 < n → EvT B' Δ' C' (tTest (tOp rEq (tOp (rIx K) (tVar 3) (tOp (rIx K) (tVar j) (tC (.int 0)))) (tVar 5))) (decide (lab L t.1 = l)) := fun h3 hj h5 ht1 => by
      refine evT_eq (et_test (ev_op (ev_op (ev_var h3 rfl) (ev_op (ev_var hj rfl) ev_int (rv_xT (atI_nat (j := 0) rfl))) (rv_xL (atI_mapN dN (lab_get (by rw [hL.len]; exact ht1))))) (ev_var h5 rfl) rv_eqI)) ?_
      rw [decide_eq_decide]; omega
    refine q_asg (s := sN (ownL ts L l).length) (ev_eq (ev_cb (ea_cons (ev_of' ((ownL ts L l).map dTie) (evN_lc1 dTie (fun t => decide (lab L t.1 = l)) (fun t => .d (dTie t)) (Src.list (ev_var rfl rfl)) (fun B' t le htm => lt rfl rfl rfl (hr t htm).1) (fun B' t le htm _ => ev_var rfl rfl) (by omega)) (by rw [List.map_map]; rfl)) ea_nil) rc_lenL) (by rw [List.length_map])) ?_
    refine q_asg (s := sN (L.count l)) (ev_count (ev_var rfl rfl) (ev_var rfl rfl)) ?_
    refine q_asg (s := .d (dTies (seenL n ts turns L l))) (ev_of' ((seenL n ts turns L l).map dTie) (evN_lc1 dTie (fun t => decide (lab L t.1 = l)) (fun t => .d (dTie t)) (Src.list (ev_var rfl rfl)) (fun B' t le htm => lt rfl rfl rfl (mem_darts.mp (reps_mem htm)).1) (fun B' t le htm _ => ev_var rfl rfl) (by omega)) (by rw [List.map_map]; rfl)) ?_
    refine s_when (b := !okL n ts turns L l) (evT_eq (et_and (a := decide (0 < (ownL ts L l).length)) (b := !decide (((seenL n ts turns L l).length : Int) = ((ownL ts L l).length : Int) - (L.count l : Int) + 2)) (evT_eq (et_test (ev_op (ev_var rfl rfl) ev_int rv_ib)) ?_) fun _ => evT_eq (et_test (ev_op (ev_cb (ea_cons (ev_var rfl rfl) ea_nil) rc_lenL) (ev_op (ev_op (ev_var rfl rfl) (ev_var rfl rfl) rv_ii) ev_int rv_ii) rv_neI)) ?_) (by unfold okL; rw [Bool.not_not])) (fun c => ?_) (fun c => ?_)
    · rw [decide_eq_decide]; omega
    · rw [List.length_map]
    · refine s_ret (s := .d (.bool (flatR n ts turns))) (ev_eq ev_bl ?_) (fun v F' H' x w => hq v F' H' ⟨x.ff, x.fh, x.hh, x.gr⟩ w)
      have : flatR n ts turns = false := by
        rw [← hfl, List.all_eq_false]
        exact ⟨l, hlm, by simpa using c⟩
      rw [this]
    · refine nx_inv () ?_
      rw [take_succ hl, List.all_append, hI]
      have c : okL n ts turns L l = true := by simpa using c
      simp [c]
  · intro _ hI
    rw [List.take_length, hfl] at hI
    exact s_ret (s := .d (.bool (flatR n ts turns))) (ev_eq ev_bl (by rw [hI])) hq
theorem swap_perm {t : List Nat} {k : Nat} (h : k + 1 < t.length) : (swapAt t k).Perm t := by
  unfold swapAt
  have h1 := List.drop_eq_getElem_cons (show k < t.length by omega)
  have h2 := List.drop_eq_getElem_cons h
  have e1 : t[k] = t.getD k 0 := by rw [List.getD_eq_getElem?_getD, List.getElem?_eq_getElem (by omega)]; rfl
  have e2 : t[k + 1] = t.getD (k + 1) 0 := by rw [List.getD_eq_getElem?_getD, List.getElem?_eq_getElem h]; rfl
  have e3 : t = t.take k ++ t.getD k 0 :: t.getD (k + 1) 0 :: t.drop (k + 2) := by rw [← e1, ← e2, ← h2, ← h1, List.take_append_drop]
  conv => rhs; rw [e3]
  rw [List.append_assoc]
  exact List.Perm.append_left _ (List.Perm.swap _ _ _)
theorem shake_tn {n : Nat} {ts : List Tie} {turns : List (List Nat)} (ht : Tn n ts turns) (h1 : 1 ≤ n) (c : Int) : Tn n ts (shakeL turns c) := by
  unfold shakeL
  have hl : 0 < (turns.length : Int) := by rw [ht.len]; omega
  obtain ⟨j, hj, hjl⟩ := FU.mod_nat (z := c) (n := turns.length) (by omega)
  rw [hj, Int.toNat_natCast]
  by_cases h2 : 2 < (turns.getD j []).length
  · rw [if_pos h2]
    obtain ⟨k, hk, hkl⟩ := FU.mod_nat (z := c / 16) (n := (turns.getD j []).length - 1) (by omega)
    rw [show ((turns.getD j []).length : Int) - 1 = (((turns.getD j []).length - 1 : Nat) : Int) by omega, hk, Int.toNat_natCast]
    refine ⟨ht.g, by rw [List.length_set]; exact ht.len, fun p => ?_⟩
    by_cases e : p = j
    · subst e
      rw [List.getD_eq_getElem?_getD, List.getElem?_set_self hjl]
      exact (swap_perm (by omega)).trans (ht.perm p)
    · rw [List.getD_eq_getElem?_getD, List.getElem?_set_ne (Ne.symm e), ← List.getD_eq_getElem?_getD]
      exact ht.perm p
  · rw [if_neg h2]; exact ht
theorem pure_l_shaken (h : sp_l_shaken K C vs H Q E) : t_l_shaken K C { nx := fun _ H' => Q .non H', rt := Q } (L2.start N_l_shaken vs) H := by
  refine enterD h fun F ss s hf ha hR hq => ?_
  obtain ⟨turns, c, rfl, hne, hl16, htl, rfl⟩ := hR
  refine ⟨_, ha, ?_⟩
  show WP ⟨F, H, []⟩ [.d (dNear turns), .d (.int c), .no, .no, .no] [] (t_l_shaken K C) _
  have hlp : 0 < turns.length := List.length_pos_iff.mpr hne
  obtain ⟨j, hj, hjl⟩ := FU.mod_nat (z := c) (n := turns.length) hlp
  have hsh : shakeL turns c = if 2 < (turns.getD j []).length then turns.set j (swapAt (turns.getD j []) ((c / 16) % (((turns.getD j []).length : Int) - 1)).toNat) else turns := by
    unfold shakeL; rw [hj, Int.toNat_natCast]
  have hget : turns[j]? = some (turns.getD j []) := row_at rfl hjl
  have hT := htl _ (List.mem_of_getElem? hget)
  refine q_new (c := .lst (turns.map fun t => .d (dNs t))) (evN_lc1A dNs (fun t => .d (dNs t)) (Src.list (ev_var rfl rfl)) (fun B' t le htm => ev_of (evN_cb (ea_cons (ev_var rfl rfl) ea_nil) rcN_listL)) (by omega)) fun mc hmc => ?_
  have hmc : H mc = none := hmc
  have hidx : ∀ {B' : Base} {Δ' : List Sd} {ss : List Sd}, Δ'[1]? = some (.d (.int c)) → Δ'[2]? = some (.v (.ref mc)) → ss.length = turns.length → Ev B' Δ' [(mc, .lst ss)] (tOp (rI (fun _ j => 0 < j) fun i j => .int (i % j)) (tVar 1) (tCB (xLen K) (tCons (tVar 2) tNil))) (sN j) := fun h1 h2 h3 =>
    ev_eq (ev_op (ev_var h1 rfl) (ev_cb (ea_cons (ev_var h2 rfl) ea_nil) (rc_lenC (k := 0) rfl)) (rv_iC (P := fun _ j => 0 < j) (by rw [h3]; omega))) (by rw [h3, hj])
  refine q_asg (s := .d (dNs (turns.getD j []))) (ev_op (ev_var rfl rfl) (hidx rfl rfl (List.length_map _)) (rv_xC 0 rfl (atI_nat (by rw [List.getElem?_map, hget]; rfl)))) ?_
  refine q_cut (Δ' := [.d (dNear turns), .d (.int c), .v (.ref mc), .any, .any]) (C' := [(mc, .lst ((shakeL turns c).map fun t => .d (dNs t)))]) ?_ ?_
  · refine s_when (b := decide (2 < (turns.getD j []).length)) (evT_eq (et_test (ev_op (ev_cb (ea_cons (ev_var rfl rfl) ea_nil) rc_lenL) ev_int rv_ib)) (by rw [decide_eq_decide, List.length_map]; omega)) (fun h2 => ?_) (fun h2 => ?_)
    · have h2 := of_decide_eq_true h2
      obtain ⟨k, hk, hkl⟩ := FU.mod_nat (z := c / 16) (n := (turns.getD j []).length - 1) (by omega)
      have hk' : (c / 16) % (((turns.getD j []).length : Int) - 1) = (k : Int) := by
        rw [show ((turns.getD j []).length : Int) - 1 = (((turns.getD j []).length - 1 : Nat) : Int) by omega, hk]
      rw [if_pos h2, hk', Int.toNat_natCast] at hsh
      generalize turns.getD j [] = T at *
      refine q_asg (s := sN k) (ev_eq (ev_op (ev_op (ev_var rfl rfl) ev_int (rv_iC (P := CDiv) ⟨by decide, by decide⟩)) (ev_op (ev_cb (ea_cons (ev_var rfl rfl) ea_nil) rc_lenL) ev_int rv_ii) (rv_iC (P := fun _ j => 0 < j) (by rw [List.length_map]; omega))) (by rw [List.length_map, hk'])) ?_
      refine s_setL (k := 0) (j := j) (s := .d (dNs (swapAt T k))) rfl (FU.catF (FU.catF (FU.cutL (f := dN) (ev_var rfl rfl) (ev_var rfl rfl)) (ev_lst (ds := [dN (T.getD (k + 1) 0), dN (T.getD k 0)]) (ea_cons (FU.atF (f := dN) (a := T) (k := k + 1) (ev_var rfl rfl) (ev_op (ev_var rfl rfl) ev_int rv_ii) (DV.getD_some (by omega))) (ea_cons (FU.atF (f := dN) (a := T) (k := k) (ev_var rfl rfl) (ev_var rfl rfl) (DV.getD_some (by omega))) ea_nil)) (by simp)) (b := [T.getD (k + 1) 0, T.getD k 0]) (by rw [List.length_take]; simp; omega)) (FU.cutR (f := dN) (k := k + 2) (ev_var rfl rfl) (ev_op (ev_var rfl rfl) ev_int rv_ii)) (by rw [List.length_append, List.length_take, List.length_drop]; simp; omega)) (ev_var rfl rfl) (hidx rfl rfl (List.length_map _)) (ixN_nat (by rw [List.length_map]; exact hjl)) (nx_is (hC := ?_))
      rw [hsh, List.map_set]; rfl
    · have h2 := of_decide_eq_false h2
      rw [if_neg h2] at hsh
      exact nx_is (hC := by rw [hsh])
  · exact s_retC (ds := (shakeL turns c).map dNs) (k := 0) (by rw [List.map_map]; rfl) (ev_var rfl rfl) hq (by simp; exact hmc)
def TurnsP (n : Nat) (ts : List Tie) (d : PyData) : Prop := ∃ turns, d = dNear turns ∧ Tn n ts turns
theorem row_small {n : Nat} {ts : List Tie} {turns : List (List Nat)} (ht : Tn n ts turns) (hn : n ≤ 16) : turns.length ≤ 16 ∧ ∀ t ∈ turns, t.length ≤ 1000 := by
  refine ⟨by rw [ht.len]; exact hn, fun t htm => ?_⟩
  obtain ⟨j, hj, rfl⟩ := List.getElem_of_mem htm
  have h1 := (ht.perm j).length_eq
  have h2 := row_len ht.g hn j
  rw [List.getD_eq_getElem?_getD, List.getElem?_eq_getElem hj] at h1
  have h1 : turns[j].length = _ := h1
  omega
theorem pure_law (w : WebC K C) (h : sp_law K C vs H Q E) : t_law K C { nx := fun _ H' => Q .non H', rt := Q } (L2.start N_law vs) H := by
  obtain ⟨a, ns, rfl, hS, hlen, k⟩ := h
  have w0 : WP ⟨H, H, []⟩ [.p (Scr K ns), .no, .no, .no, .no, .no, .no, .no, .no, .no, .no] [] (t_law K C) { nx := fun _ H' => Q .non H', rt := Q } := ?_
  · exact w0 _ _ ⟨H, St.start (N := N_law) (ss := [.p (Scr K ns)]) (Ex.refl H) (.cons ⟨a, rfl, hS⟩ .nil)⟩
  obtain ⟨h1, h16⟩ := manyB_rng ns
  refine q_asg (s := sN (manyB ns)) (ev_call (ea_cons (ev_var rfl rfl) ea_nil) fun _ _ _ _ => ⟨ns, rfl, rfl⟩) ?_
  generalize manyB ns = n at h1 h16
  obtain ⟨g, h40⟩ := tiesC_good ns (n := n) h1
  refine q_asg (s := .d (dTies (tiesC ns n))) (ev_call (ea_cons (ev_var rfl rfl) (ea_cons (ev_var rfl rfl) ea_nil)) fun _ _ _ _ => ⟨ns, n, rfl, h1, h16, hlen, rfl⟩) ?_
  generalize tiesC ns n = ts at g h40
  have ht0 := turnsBy_ok (ns := ns) g
  refine q_asg (s := .d (dNear (turnsBy ns n (nearOf n ts)))) (ev_call (ea_cons (ev_var rfl rfl) (ea_cons (ev_var rfl rfl) (ea_cons (ev_var rfl rfl) ea_nil))) fun _ _ _ _ => ⟨ns, n, ts, rfl, h16, h40, g, rfl⟩) ?_
  refine q_asg (s := .p (WebM C n (nearOf n ts))) (ev_make (ea_cons (ev_var rfl rfl) (ea_cons (ev_of (evN_cb (ea_cons (ev_var rfl rfl) ea_nil) rcN_listL)) ea_nil)) fun σ H' F Hm hs ex => ⟨n, ts, _, rfl, tiesD hs ex, h1, h16, h40, g, rfl⟩) ?_
  refine q_asg (s := .d (.int (cellZ ns 3))) (ev_call (ea_cons (ev_var rfl rfl) (ea_cons ev_int ea_nil)) fun _ _ _ _ => ⟨ns, 3, rfl, rfl⟩) ?_
  generalize cellZ ns 3 = c
  have copyT : ∀ {B' : Base} {Δ' : List Sd} {j : Nat} {turns : List (List Nat)}, Δ'[j]? = some (.d (dNear turns)) → 7 < Δ'.length → turns.length ≤ 16 → Ev B' Δ' [] (tLc (iList K (tVar j)) (gName 7) tYes (tCB (xListOf K) (tCons (tVar 7) tNil)) [7]) (.d (dNear turns)) := fun {B' Δ' j turns} hj hl ht16 => by
    refine ev_of' (turns.map dNs) (evN_lc1A dNs (fun t => .d (dNs t)) (Src.list (ev_var hj rfl)) (fun B2 t le htm => ev_of (evN_cb (ea_cons (ev_var ?_ rfl) ea_nil) rcN_listL)) (by omega)) (by rw [List.map_map]; rfl)
    rw [List.getElem?_set_self (by simp [wipeD]; exact hl)]
  refine q_cut (Δ' := [.p (Scr K ns), sN n, .d (dTies ts), .p (FU.DM (TurnsP n ts)), .p (WebM C n (nearOf n ts)), .any, .any, .any, .no, .no, .no]) (C' := []) ?_ ?_
  · have up : ∀ {turns : List (List Nat)}, Tn n ts turns → ∀ F v, SlV F v (.d (dNear turns)) → SlV F v (.p (FU.DM (TurnsP n ts))) := fun {turns} ht F v w => ⟨_, ⟨turns, rfl, ht⟩, w⟩
    refine s_when (b := decide (c % 2 = 1)) (et_test (ev_op (ev_op (ev_var rfl rfl) ev_int (rv_iC (P := fun _ j => 0 < j) (by decide))) ev_int rv_eqI)) (fun _ => ?_) (fun _ => ?_)
    · refine FU.q_tgtX (α := PyData) (js := [6]) (DE.DrawnP n ts) id (fun d Δ => Δ.set 6 (.d d)) (m := FU.DM (DE.DrawnP n ts)) (ev_call (ea_cons (ev_var rfl rfl) ea_nil) fun _ _ _ _ => ⟨n, ts, rfl, g, h16, h40, rfl⟩) (fun F1 v ⟨d, h1, h2⟩ => ⟨d, h1, h2⟩) (fun _ => tg_name) fun d hd => ?_
      rcases hd with ⟨rfl, _⟩ | ⟨turns, L, rfl, d1, d2, d3, d4⟩
      · refine s_no (et_test (ev_op (ev_var rfl rfl) ev_non rv_notN)) rfl ?_
        exact nx_to (i := 3) rfl rfl (up ht0) nx_is
      · have ht := DH.drawn_tn g h16 d1 d2 d3 d4
        obtain ⟨r1, r2⟩ := row_small ht h16
        refine s_when (b := true) (et_test (ev_op (ev_var rfl rfl) ev_non rv_notN)) (fun _ => ?_) (fun z => by cases z)
        refine q_asg (s := .d (dNear turns)) (copyT rfl (by simp) r1) ?_
        refine s_when (b := decide (c / 2 % 3 = 1)) (et_test (ev_op (ev_op (ev_op (ev_var rfl rfl) ev_int (rv_iC (P := CDiv) ⟨by decide, by decide⟩)) ev_int (rv_iC (P := fun _ j => 0 < j) (by decide))) ev_int rv_eqI)) (fun _ => ?_) (fun _ => ?_)
        · refine s_asg (s := .d (dNear (shakeL turns (c / 6)))) (ev_call (ea_cons (ev_var rfl rfl) (ea_cons (ev_op (ev_var rfl rfl) ev_int (rv_iC (P := CDiv) ⟨by decide, by decide⟩)) ea_nil)) fun _ _ _ _ => ⟨turns, c / 6, rfl, fun e => by have := ht.len; rw [e] at this; simp at this; omega, r1, r2, rfl⟩) ?_
          exact nx_to (i := 3) rfl rfl (up (shake_tn ht h1 (c / 6))) nx_is
        · exact nx_to (i := 3) rfl rfl (up ht) nx_is
    · exact nx_to (i := 3) rfl rfl (up ht0) nx_is
  refine wp_open (i := 3) rfl fun d hd => ?_
  obtain ⟨turns, rfl, ht⟩ := hd
  obtain ⟨r1, r2⟩ := row_small ht h16
  obtain ⟨q1, q2⟩ := row_small ht0 h16
  refine q_asg (s := .d (dNear (turnsBy ns n (nearOf n ts)))) (ev_call (ea_cons (ev_var rfl rfl) (ea_cons (ev_var rfl rfl) (ea_cons (ev_var rfl rfl) ea_nil))) fun _ _ _ _ => ⟨ns, n, ts, rfl, h16, h40, g, rfl⟩) ?_
  generalize turnsBy ns n (nearOf n ts) = other at ht0 q1 q2
  refine q_no (et_test (ev_op (ev_call (s := .d (.bool (flatR n ts other))) (ea_cons (ev_var rfl rfl) (ea_cons (copyT rfl (by simp) q1) ea_nil)) fun _ _ _ _ => ⟨n, ts, other, rfl, h16, h40, ht0, rfl⟩) (ev_call (s := .d (.bool (flatR n ts other))) (ea_cons (ev_var rfl rfl) (ea_cons (ev_var rfl rfl) (ea_cons (ev_var rfl rfl) ea_nil))) fun _ _ _ _ => ⟨n, ts, other, rfl, h16, h40, ht0, rfl⟩) rv_neB)) (by simp) ?_
  refine q_asg (s := .d (dNear turns)) (copyT rfl (by simp) r1) ?_
  refine q_asg (s := .d (.bool (flatR n ts turns))) (ev_call (ea_cons (ev_var rfl rfl) (ea_cons (ev_var rfl rfl) ea_nil)) fun _ _ _ _ => ⟨n, ts, turns, rfl, h16, h40, ht, rfl⟩) ?_
  refine q_no (et_orF (et_nF (et_B (ev_cb (ea_cons (ev_var rfl rfl) (ea_cons ev_cv ea_nil)) (rc_isi kit_bb))) rfl) rfl (et_or (a := false) (b := false) (evT_eq (et_test (ev_op (ev_var rfl rfl) (ev_call (s := .d (.bool (flatR n ts turns))) (ea_cons (ev_var rfl rfl) (ea_cons (ev_var rfl rfl) (ea_cons (ev_var rfl rfl) ea_nil))) fun _ _ _ _ => ⟨n, ts, turns, rfl, h16, h40, ht, rfl⟩) rv_neB)) (by simp)) fun _ => evT_eq (et_test (ev_op (ev_var rfl rfl) (ev_var rfl rfl) (rv_neG faith_near (a := turns) (b := turns) (sh_near _) (sh_near _)))) (by simp))) rfl ?_
  exact s_ret (s := .d (.bool true)) (ev_call (ea_cons (ev_var rfl rfl) (ea_cons (ev_var rfl rfl) (ea_cons (ev_var rfl rfl) ea_nil))) fun _ _ _ _ => ⟨n, ts, rfl, h16, h40, g, rfl⟩) fun v F' H' _ hv => by cases hv; exact k _
end
end L07

set_option Elab.async false
set_option linter.all false
set_option maxRecDepth 100000
set_option maxHeartbeats 4000000
set_option autoImplicit false
namespace R07
open PySem PySem.Spec PyProof.Rows
open L2 hiding St
open FD hiding St
open FW FQ FX FI FM FP FN FZ FB FR FS FT FO DW DX DY DV DE DG L07
open FA hiding N_l_many t_l_many sp_l_many pure_l_many
/-! ### the text by places -/
def topS (i : Nat) : Stmt := PySem.Challenge.pw_flatdraw_k07_flat.main.body.getD i (.Pass ⟨0, 0, 0, 0⟩)
abbrev s_is_whole : Stmt := topS 8
abbrev s_come_to : Stmt := topS 9
abbrev s_Web_init : Stmt := inClass (topS 10) 0
abbrev s_Web_has : Stmt := inClass (topS 10) 1
abbrev s_Web_need : Stmt := inClass (topS 10) 2
abbrev s_Web_ties : Stmt := inClass (topS 10) 3
abbrev s_Web_beside : Stmt := inClass (topS 10) 4
abbrev s_Web_pieces : Stmt := inClass (topS 10) 6
abbrev s_is_turn : Stmt := topS 12
abbrev s_are_turns : Stmt := topS 13
abbrev s_behind : Stmt := topS 14
abbrev s_walks : Stmt := topS 15
abbrev s_flat : Stmt := topS 16
abbrev s_pair_of : Stmt := topS 18
abbrev s_joined : Stmt := topS 19
abbrev s_blocks : Stmt := topS 20
abbrev s_near_of : Stmt := topS 22
abbrev s_way_in : Stmt := topS 23
abbrev s_first_ring : Stmt := topS 24
abbrev s_pieces_left : Stmt := topS 25
abbrev s_fields_for : Stmt := topS 26
abbrev s_parted : Stmt := topS 27
abbrev s_chosen : Stmt := topS 28
abbrev s_fields_of : Stmt := topS 29
abbrev s_turns_of : Stmt := topS 30
abbrev s_drawn_block : Stmt := topS 31
abbrev s_drawn : Stmt := topS 32
abbrev s_l_cell_at : Stmt := topS 34
abbrev s_l_many : Stmt := topS 36
abbrev s_l_ties : Stmt := topS 37
abbrev s_l_order_by : Stmt := topS 38
abbrev s_l_turns_by : Stmt := topS 39
abbrev s_l_labels : Stmt := topS 40
abbrev s_l_firsts : Stmt := topS 41
abbrev s_l_is_flat : Stmt := topS 42
abbrev s_l_shaken : Stmt := topS 43
abbrev s_l_stays : Stmt := topS 44
abbrev s_law : Stmt := topS 45
theorem sc_is_whole : FnScope N_is_whole ["thing"] (defScope s_is_whole) := ⟨rfl, rfl, rfl, by decide +kernel, rfl, by decide +kernel, by decide +kernel⟩
theorem sc_come_to : FnScope N_come_to ["near", "start", "barred"] (defScope s_come_to) := ⟨rfl, rfl, rfl, by decide +kernel, rfl, by decide +kernel, by decide +kernel⟩
theorem sc_Web_init : FnScope N_Web_init ["self", "many", "ties"] (defScope s_Web_init) := ⟨rfl, rfl, rfl, by decide +kernel, rfl, by decide +kernel, by decide +kernel⟩
theorem sc_Web_has : FnScope N_Web_has ["self", "point"] (defScope s_Web_has) := ⟨rfl, rfl, rfl, by decide +kernel, rfl, by decide +kernel, by decide +kernel⟩
theorem sc_Web_need : FnScope N_Web_need ["self", "point"] (defScope s_Web_need) := ⟨rfl, rfl, rfl, by decide +kernel, rfl, by decide +kernel, by decide +kernel⟩
theorem sc_Web_ties : FnScope N_Web_ties ["self"] (defScope s_Web_ties) := ⟨rfl, rfl, rfl, by decide +kernel, rfl, by decide +kernel, by decide +kernel⟩
theorem sc_Web_beside : FnScope N_Web_beside ["self", "point"] (defScope s_Web_beside) := ⟨rfl, rfl, rfl, by decide +kernel, rfl, by decide +kernel, by decide +kernel⟩
theorem sc_Web_pieces : FnScope N_Web_pieces ["self"] (defScope s_Web_pieces) := ⟨rfl, rfl, rfl, by decide +kernel, rfl, by decide +kernel, by decide +kernel⟩
theorem sc_is_turn : FnScope N_is_turn ["turn", "near"] (defScope s_is_turn) := ⟨rfl, rfl, rfl, by decide +kernel, rfl, by decide +kernel, by decide +kernel⟩
theorem sc_are_turns : FnScope N_are_turns ["web", "turns"] (defScope s_are_turns) := ⟨rfl, rfl, rfl, by decide +kernel, rfl, by decide +kernel, by decide +kernel⟩
theorem sc_behind : FnScope N_behind ["turns", "one", "other"] (defScope s_behind) := ⟨rfl, rfl, rfl, by decide +kernel, rfl, by decide +kernel, by decide +kernel⟩
theorem sc_walks : FnScope N_walks ["web", "turns"] (defScope s_walks) := ⟨rfl, rfl, rfl, by decide +kernel, rfl, by decide +kernel, by decide +kernel⟩
theorem sc_flat : FnScope N_flat ["web", "turns"] (defScope s_flat) := ⟨rfl, rfl, rfl, by decide +kernel, rfl, by decide +kernel, by decide +kernel⟩
theorem sc_pair_of : FnScope N_pair_of ["one", "other"] (defScope s_pair_of) := ⟨rfl, rfl, rfl, by decide +kernel, rfl, by decide +kernel, by decide +kernel⟩
theorem sc_joined : FnScope N_joined ["labels", "one", "other"] (defScope s_joined) := ⟨rfl, rfl, rfl, by decide +kernel, rfl, by decide +kernel, by decide +kernel⟩
theorem sc_blocks : FnScope N_blocks ["web"] (defScope s_blocks) := ⟨rfl, rfl, rfl, by decide +kernel, rfl, by decide +kernel, by decide +kernel⟩
theorem sc_near_of : FnScope N_near_of ["ties"] (defScope s_near_of) := ⟨rfl, rfl, rfl, by decide +kernel, rfl, by decide +kernel, by decide +kernel⟩
theorem sc_way_in : FnScope N_way_in ["near", "start", "goals", "inner"] (defScope s_way_in) := ⟨rfl, rfl, rfl, by decide +kernel, rfl, by decide +kernel, by decide +kernel⟩
theorem sc_first_ring : FnScope N_first_ring ["near", "tie"] (defScope s_first_ring) := ⟨rfl, rfl, rfl, by decide +kernel, rfl, by decide +kernel, by decide +kernel⟩
theorem sc_pieces_left : FnScope N_pieces_left ["near", "ties", "placed", "laid"] (defScope s_pieces_left) := ⟨rfl, rfl, rfl, by decide +kernel, rfl, by decide +kernel, by decide +kernel⟩
theorem sc_fields_for : FnScope N_fields_for ["fields", "ends"] (defScope s_fields_for) := ⟨rfl, rfl, rfl, by decide +kernel, rfl, by decide +kernel, by decide +kernel⟩
theorem sc_parted : FnScope N_parted ["field", "way"] (defScope s_parted) := ⟨rfl, rfl, rfl, by decide +kernel, rfl, by decide +kernel, by decide +kernel⟩
theorem sc_chosen : FnScope N_chosen ["fields", "left"] (defScope s_chosen) := ⟨rfl, rfl, rfl, by decide +kernel, rfl, by decide +kernel, by decide +kernel⟩
theorem sc_fields_of : FnScope N_fields_of ["ties"] (defScope s_fields_of) := ⟨rfl, rfl, rfl, by decide +kernel, rfl, by decide +kernel, by decide +kernel⟩
theorem sc_turns_of : FnScope N_turns_of ["fields", "near"] (defScope s_turns_of) := ⟨rfl, rfl, rfl, by decide +kernel, rfl, by decide +kernel, by decide +kernel⟩
theorem sc_drawn_block : FnScope N_drawn_block ["ties"] (defScope s_drawn_block) := ⟨rfl, rfl, rfl, by decide +kernel, rfl, by decide +kernel, by decide +kernel⟩
theorem sc_drawn : FnScope N_drawn ["web"] (defScope s_drawn) := ⟨rfl, rfl, rfl, by decide +kernel, rfl, by decide +kernel, by decide +kernel⟩
theorem sc_l_cell_at : FnScope N_l_cell_at ["_law_script", "_law_k"] (defScope s_l_cell_at) := ⟨rfl, rfl, rfl, by decide +kernel, rfl, by decide +kernel, by decide +kernel⟩
theorem sc_l_many : FnScope N_l_many ["_law_script"] (defScope s_l_many) := ⟨rfl, rfl, rfl, by decide +kernel, rfl, by decide +kernel, by decide +kernel⟩
theorem sc_l_ties : FnScope N_l_ties ["_law_script", "_law_many_here"] (defScope s_l_ties) := ⟨rfl, rfl, rfl, by decide +kernel, rfl, by decide +kernel, by decide +kernel⟩
theorem sc_l_order_by : FnScope N_l_order_by ["_law_cell", "_law_row"] (defScope s_l_order_by) := ⟨rfl, rfl, rfl, by decide +kernel, rfl, by decide +kernel, by decide +kernel⟩
theorem sc_l_turns_by : FnScope N_l_turns_by ["_law_script", "_law_many_here", "_law_ties_here"] (defScope s_l_turns_by) := ⟨rfl, rfl, rfl, by decide +kernel, rfl, by decide +kernel, by decide +kernel⟩
theorem sc_l_labels : FnScope N_l_labels ["_law_ties_here", "_law_many_here"] (defScope s_l_labels) := ⟨rfl, rfl, rfl, by decide +kernel, rfl, by decide +kernel, by decide +kernel⟩
theorem sc_l_firsts : FnScope N_l_firsts ["_law_turns", "_law_ties_here"] (defScope s_l_firsts) := ⟨rfl, rfl, rfl, by decide +kernel, rfl, by decide +kernel, by decide +kernel⟩
theorem sc_l_is_flat : FnScope N_l_is_flat ["_law_turns", "_law_ties_here", "_law_many_here"] (defScope s_l_is_flat) := ⟨rfl, rfl, rfl, by decide +kernel, rfl, by decide +kernel, by decide +kernel⟩
theorem sc_l_shaken : FnScope N_l_shaken ["_law_turns", "_law_cell"] (defScope s_l_shaken) := ⟨rfl, rfl, rfl, by decide +kernel, rfl, by decide +kernel, by decide +kernel⟩
theorem sc_l_stays : FnScope N_l_stays ["_law_web", "_law_ties_here", "_law_many_here"] (defScope s_l_stays) := ⟨rfl, rfl, rfl, by decide +kernel, rfl, by decide +kernel, by decide +kernel⟩
theorem sc_law : FnScope N_law ["_law_script"] (defScope s_law) := ⟨rfl, rfl, rfl, by decide +kernel, rfl, by decide +kernel, by decide +kernel⟩
/-! ### what the top has written -/
structure Own (K : PySem.W.Frag) (mg : Str → Option Value) (x : Str) (st : Stmt) (ps : List Str) where
  f : Addr
  fd : FuncData
  F : Fun K x x st f fd
  m : mg x = some (.ref f)
  b : Binds K fd ps []
structure Mth (K : PySem.W.Frag) (C : Addr) (x q : Str) (st : Stmt) (ps : List Str) where
  f : Addr
  fd : FuncData
  F : Fun K x q st f fd
  M : Meth K C x f
  b : Binds K fd ps []
structure Txt (K : PySem.W.Frag) (mg : Str → Option Value) (C : Addr) where
  cl : Cls K C
  nM : NoAttr K C "many"
  nN : NoAttr K C "near"
  g_Web : mg "Web" = some (.ref C)
  b_bool : mg "bool" = none
  b_int : mg "int" = none
  b_isinstance : mg "isinstance" = none
  b_len : mg "len" = none
  b_list : mg "list" = none
  b_max : mg "max" = none
  b_min : mg "min" = none
  b_range : mg "range" = none
  b_reversed : mg "reversed" = none
  b_sorted : mg "sorted" = none
  b_sum : mg "sum" = none
  b_tuple : mg "tuple" = none
  t_MOST_POINTS : Tok
  c_MOST_POINTS : mg "MOST_POINTS" = some (.int 16 t_MOST_POINTS)
  t_MOST_TIES : Tok
  c_MOST_TIES : mg "MOST_TIES" = some (.int 40 t_MOST_TIES)
  is_whole : Own K mg "is_whole" s_is_whole ["thing"]
  come_to : Own K mg "come_to" s_come_to ["near", "start", "barred"]
  Web_init : Mth K C "__init__" "Web.__init__" s_Web_init ["self", "many", "ties"]
  Web_has : Mth K C "has" "Web.has" s_Web_has ["self", "point"]
  Web_need : Mth K C "need" "Web.need" s_Web_need ["self", "point"]
  Web_ties : Mth K C "ties" "Web.ties" s_Web_ties ["self"]
  Web_beside : Mth K C "beside" "Web.beside" s_Web_beside ["self", "point"]
  Web_pieces : Mth K C "pieces" "Web.pieces" s_Web_pieces ["self"]
  is_turn : Own K mg "is_turn" s_is_turn ["turn", "near"]
  are_turns : Own K mg "are_turns" s_are_turns ["web", "turns"]
  behind : Own K mg "behind" s_behind ["turns", "one", "other"]
  walks : Own K mg "walks" s_walks ["web", "turns"]
  flat : Own K mg "flat" s_flat ["web", "turns"]
  pair_of : Own K mg "pair_of" s_pair_of ["one", "other"]
  joined : Own K mg "joined" s_joined ["labels", "one", "other"]
  blocks : Own K mg "blocks" s_blocks ["web"]
  near_of : Own K mg "near_of" s_near_of ["ties"]
  way_in : Own K mg "way_in" s_way_in ["near", "start", "goals", "inner"]
  first_ring : Own K mg "first_ring" s_first_ring ["near", "tie"]
  pieces_left : Own K mg "pieces_left" s_pieces_left ["near", "ties", "placed", "laid"]
  fields_for : Own K mg "fields_for" s_fields_for ["fields", "ends"]
  parted : Own K mg "parted" s_parted ["field", "way"]
  chosen : Own K mg "chosen" s_chosen ["fields", "left"]
  fields_of : Own K mg "fields_of" s_fields_of ["ties"]
  turns_of : Own K mg "turns_of" s_turns_of ["fields", "near"]
  drawn_block : Own K mg "drawn_block" s_drawn_block ["ties"]
  drawn : Own K mg "drawn" s_drawn ["web"]
  l_cell_at : Own K mg "_law_cell_at" s_l_cell_at ["_law_script", "_law_k"]
  l_many : Own K mg "_law_many" s_l_many ["_law_script"]
  l_ties : Own K mg "_law_ties" s_l_ties ["_law_script", "_law_many_here"]
  l_order_by : Own K mg "_law_order_by" s_l_order_by ["_law_cell", "_law_row"]
  l_turns_by : Own K mg "_law_turns_by" s_l_turns_by ["_law_script", "_law_many_here", "_law_ties_here"]
  l_labels : Own K mg "_law_labels" s_l_labels ["_law_ties_here", "_law_many_here"]
  l_firsts : Own K mg "_law_firsts" s_l_firsts ["_law_turns", "_law_ties_here"]
  l_is_flat : Own K mg "_law_is_flat" s_l_is_flat ["_law_turns", "_law_ties_here", "_law_many_here"]
  l_shaken : Own K mg "_law_shaken" s_l_shaken ["_law_turns", "_law_cell"]
  l_stays : Own K mg "_law_stays" s_l_stays ["_law_web", "_law_ties_here", "_law_many_here"]
  M : Mk K C Web_init.f
theorem Txt.w {K : PySem.W.Frag} {mg : Str → Option Value} {C : Addr} (T : Txt K mg C) : WebC K C := ⟨T.cl, T.nM, T.nN⟩
section
variable {P : Program} {w : World} {K : PySem.W.Frag} {mg : Str → Option Value} {base : Heap} {C : Addr}
theorem ok_is_whole (T : Txt K mg C) : FnOk P w K mg base CX0 1 T.is_whole.f T.is_whole.fd ["thing"] (sp_is_whole K C) := by
  refine T.is_whole.F.ok sc_is_whole (fun vs H Q E h => ?_) (fun cdv A outer s H vs Q E hr h => ⟨t_is_whole K C, ?_, pure_is_whole h⟩)
  · obtain ⟨_, ss, _, _, ha, hR, _⟩ := h
    rw [SlA.length ha]
    unfold R_whole at hR
    repeat (first | (obtain ⟨rfl, _⟩ := hR; rfl) | (obtain ⟨_, hR⟩ := hR))
  · exact (pss_one (ps_ret (pe_and (pe_callB call_isi (by rfl) T.b_isinstance (by decide +kernel) (pa_cons (pv 0) (pa_cons (pe_bltn (v := .ty "int") (by rfl) T.b_int (by decide +kernel) rfl) pa_nil))) (pe_one (pe_not (pe_callB call_isi (by rfl) T.b_isinstance (by decide +kernel) (pa_cons (pv 0) (pa_cons (pe_bltn (v := .ty "bool") (by rfl) T.b_bool (by decide +kernel) rfl) pa_nil))))))))
theorem ok_come_to (T : Txt K mg C) : FnOk P w K mg base CX0 1 T.come_to.f T.come_to.fd ["near", "start", "barred"] (sp_come_to K C) := by
  refine T.come_to.F.ok sc_come_to (fun vs H Q E h => ?_) (fun cdv A outer s H vs Q E hr h => ⟨t_come_to K C, ?_, pure_come_to h⟩)
  · obtain ⟨_, ss, _, _, ha, hR, _⟩ := h
    rw [SlA.length ha]
    unfold R_come_to at hR
    repeat (first | (obtain ⟨rfl, _⟩ := hR; rfl) | (obtain ⟨_, hR⟩ := hR))
  · exact (pss_cons (ps_set (i := 3) sc_come_to.nd rfl (Or.inl rfl) (pe_lst (pa_cons (pv 1) pa_nil)))
    (pss_cons (ps_set (i := 4) sc_come_to.nd rfl (Or.inl rfl) pe_int)
    (pss_cons (ps_while PassesOwn.never (pt_cmpR op_lt (pv 4) (pe_callB call_len_seq (by rfl) T.b_len (by decide +kernel) (pa_cons (pv 3) pa_nil)) (nomark _)) (pss_cons (ps_for PassesOwn.never rfl (pi_list (FX.pe_alt (pe_ix ix_seq (pv 0) (pe_ix ix_seq (pv 3) (pv 4) (fun _ _ => rfl)) (fun _ _ => rfl)) (pe_dget (hu_of hr) (pv 0) (pe_ix ix_seq (pv 3) (pv 4) (fun _ _ => rfl)) (fun _ _ => rfl)))) (pg_name (i := 5) sc_come_to.nd rfl (Or.inl rfl)) (pss_one (ps_if (PW.pt (pw_and (pt_cmpR op_notIn_seq (pv 5) (pv 3) (by rfl)) (pw_and1 (pt_cmp (pc_dnotin (hu_of hr) (pv 5) (pv 2)))))) (pss_one (ps_expr (pe_bm PySem.F.plainAttrs_list PySem.F.slot_list_append PySem.F.type_list_append mt_append (pv 3) (pa_cons (pv 5) pa_nil)))) pss_nil)))
    (pss_one (ps_set (i := 4) sc_come_to.nd rfl (Or.inl rfl) (pe_op op_add (pv 4) pe_int)))))
    (pss_one (ps_ret (pv 3))))))
theorem ok_Web_has (T : Txt K mg C) : FnOk P w K mg base CX0 2 T.Web_has.f T.Web_has.fd ["self", "point"] (sp_Web_has K C) := by
  refine T.Web_has.F.ok sc_Web_has (fun vs H Q E h => ?_) (fun cdv A outer s H vs Q E hr h => ⟨t_Web_has K C, ?_, pure_Web_has T.w h⟩)
  · obtain ⟨_, ss, _, _, ha, hR, _⟩ := h
    rw [SlA.length ha]
    unfold R_has at hR
    repeat (first | (obtain ⟨rfl, _⟩ := hR; rfl) | (obtain ⟨_, hR⟩ := hR))
  · exact (pss_one (ps_ret (pe_and (pe_call (ok_is_whole T) (hr.mono (by decide)) rfl T.is_whole.m T.is_whole.F.kp T.is_whole.b .nil pass0 (pa_cons (pv 1) pa_nil)) (pe_one (pe_chain op_le op_lt pe_int (pv 1) (pe_fld (pv 0) rfl))))))
theorem ok_Web_init (T : Txt K mg C) : FnOk P w K mg base CX0 3 T.Web_init.f T.Web_init.fd ["self", "many", "ties"] (sp_Web_init K C) := by
  refine T.Web_init.F.ok sc_Web_init (fun vs H Q E h => ?_) (fun cdv A outer s H vs Q E hr h => ⟨t_Web_init K C, ?_, pure_Web_init T.w h⟩)
  · obtain ⟨_, _, _, _, ws, ss, _, rfl, _, _, _, _, _, ha, hR, _⟩ := h
    rw [List.length_cons, SlA.length ha]
    unfold R_init at hR
    repeat (first | (obtain ⟨rfl, _⟩ := hR; rfl) | (obtain ⟨_, hR⟩ := hR))
  · exact (pss_cons (ps_if (PW.pt (pw_or (pt_not (pt_val (pe_call (ok_is_whole T) (hr.mono (by decide)) rfl T.is_whole.m T.is_whole.F.kp T.is_whole.b .nil pass0 (pa_cons (pv 1) pa_nil)))) (pw_or1 (pt_not (pt_chain op_le op_le pe_int (pv 1) (pe_glob (by rfl) T.c_MOST_POINTS ⟨_, rfl⟩)))))) (pss_one ps_never) pss_nil)
    (pss_cons (ps_if (PW.pt (pw_or (pt_not (pt_val (pe_callB call_isi (by rfl) T.b_isinstance (by decide +kernel) (pa_cons (pv 2) (pa_cons (pe_bltn (v := .ty "list") (by rfl) T.b_list (by decide +kernel) rfl) pa_nil))))) (pw_or1 (pt_cmpR op_gt (pe_callB call_len_seq (by rfl) T.b_len (by decide +kernel) (pa_cons (pv 2) pa_nil)) (pe_glob (by rfl) T.c_MOST_TIES ⟨_, rfl⟩) (nomark _))))) (pss_one ps_never) pss_nil)
    (pss_cons (ps_fld (pv 0) (pv 1) rfl)
    (pss_cons (ps_fld (pv 0) (pe_lc (own := [("point", 3)]) (g := (gName 3)) (tt := tYes) (te := (tLst tNil)) rfl sc_Web_init.nd (pi_range1 (by rfl) T.b_range (pa_cons (pv 1) pa_nil)) (blkOk_by (N := N_Web_init) (sc := defScope s_Web_init) (by decide +kernel)) (fun _ _ _ _ _ => (pg_name (i := 3) sc_Web_init.nd rfl (Or.inl rfl))) (fun _ _ _ _ _ => pts_nil) (fun _ _ _ _ _ => (pe_lst pa_nil))) rfl)
    (pss_one (ps_for PassesOwn.never rfl (pi_list (pv 2)) (pg_name (i := 4) sc_Web_init.nd rfl (Or.inl rfl)) (pss_cons (ps_if (PW.pt (pw_or (pt_not (pt_val (pe_callB call_isi (by rfl) T.b_isinstance (by decide +kernel) (pa_cons (pv 4) (pa_cons (pe_bltn (v := .ty "tuple") (by rfl) T.b_tuple (by decide +kernel) rfl) pa_nil))))) (pw_or (pt_cmpR op_ne (pe_callB call_len_seq (by rfl) T.b_len (by decide +kernel) (pa_cons (pv 4) pa_nil)) pe_int (nomark _)) (pw_or (pt_not (pt_val (pe_meth (pv 0) T.cl T.Web_has.M (ok_Web_has T) (hr.mono (by decide)) T.Web_has.b .nil pass0 (pa_cons (pe_ix ix_seq (pv 4) pe_int (fun _ _ => rfl)) pa_nil)))) (pw_or1 (pt_not (pt_val (pe_meth (pv 0) T.cl T.Web_has.M (ok_Web_has T) (hr.mono (by decide)) T.Web_has.b .nil pass0 (pa_cons (pe_ix ix_seq (pv 4) pe_int (fun _ _ => rfl)) pa_nil))))))))) (pss_one ps_never) pss_nil)
    (pss_cons (ps_if (PW.pt (pw_or (pt_cmpR op_eq (pe_ix ix_seq (pv 4) pe_int (fun _ _ => rfl)) (pe_ix ix_seq (pv 4) pe_int (fun _ _ => rfl)) (nomark _)) (pw_or1 (pt_cmpR op_in_seq (pe_ix ix_seq (pv 4) pe_int (fun _ _ => rfl)) (pe_ix ix_seq (pe_fld (pv 0) rfl) (pe_ix ix_seq (pv 4) pe_int (fun _ _ => rfl)) (fun _ _ => rfl)) (by rfl))))) (pss_one ps_never) pss_nil)
    (pss_cons (ps_asg (pe_callB cr_sortedI (by rfl) T.b_sorted (by decide +kernel) (pa_cons (pe_op op_cat (pe_ix ix_seq (pe_fld (pv 0) rfl) (pe_ix ix_seq (pv 4) pe_int (fun _ _ => rfl)) (fun _ _ => rfl)) (pe_lst (pa_cons (pe_ix ix_seq (pv 4) pe_int (fun _ _ => rfl)) pa_nil))) pa_nil)) (pg_sub (pe_fld (pv 0) rfl) (pe_ix ix_seq (pv 4) pe_int (fun _ _ => rfl)) set_list))
    (pss_one (ps_asg (pe_callB cr_sortedI (by rfl) T.b_sorted (by decide +kernel) (pa_cons (pe_op op_cat (pe_ix ix_seq (pe_fld (pv 0) rfl) (pe_ix ix_seq (pv 4) pe_int (fun _ _ => rfl)) (fun _ _ => rfl)) (pe_lst (pa_cons (pe_ix ix_seq (pv 4) pe_int (fun _ _ => rfl)) pa_nil))) pa_nil)) (pg_sub (pe_fld (pv 0) rfl) (pe_ix ix_seq (pv 4) pe_int (fun _ _ => rfl)) set_list))))))))))))
theorem ok_Web_need (T : Txt K mg C) : FnOk P w K mg base CX0 3 T.Web_need.f T.Web_need.fd ["self", "point"] (sp_Web_need K C) := by
  refine T.Web_need.F.ok sc_Web_need (fun vs H Q E h => ?_) (fun cdv A outer s H vs Q E hr h => ⟨t_Web_need K C, ?_, pure_Web_need T.w h⟩)
  · obtain ⟨_, ss, _, _, ha, hR, _⟩ := h
    rw [SlA.length ha]
    unfold R_need at hR
    repeat (first | (obtain ⟨rfl, _⟩ := hR; rfl) | (obtain ⟨_, hR⟩ := hR))
  · exact (pss_one (ps_if (pt_not (pt_val (pe_meth (pv 0) T.cl T.Web_has.M (ok_Web_has T) (hr.mono (by decide)) T.Web_has.b .nil pass0 (pa_cons (pv 1) pa_nil)))) (pss_one ps_never) pss_nil))
theorem ok_Web_ties (T : Txt K mg C) : FnOk P w K mg base CX0 1 T.Web_ties.f T.Web_ties.fd ["self"] (sp_Web_ties K C) := by
  refine T.Web_ties.F.ok sc_Web_ties (fun vs H Q E h => ?_) (fun cdv A outer s H vs Q E hr h => ⟨t_Web_ties K C, ?_, pure_Web_ties T.w h⟩)
  · obtain ⟨_, ss, _, _, ha, hR, _⟩ := h
    rw [SlA.length ha]
    unfold R_ties at hR
    repeat (first | (obtain ⟨rfl, _⟩ := hR; rfl) | (obtain ⟨_, hR⟩ := hR))
  · exact (pss_cons (ps_set (i := 1) sc_Web_ties.nd rfl (Or.inl rfl) (pe_lst pa_nil))
    (pss_cons (ps_for PassesOwn.never rfl (pi_range1 (by rfl) T.b_range (pa_cons (pe_fld (pv 0) rfl) pa_nil)) (pg_name (i := 2) sc_Web_ties.nd rfl (Or.inl rfl)) (pss_one (ps_for PassesOwn.never rfl (pi_list (pe_ix ix_seq (pe_fld (pv 0) rfl) (pv 2) (fun _ _ => rfl))) (pg_name (i := 3) sc_Web_ties.nd rfl (Or.inl rfl)) (pss_one (ps_if (pt_cmpR op_lt (pv 2) (pv 3) (nomark _)) (pss_one (ps_expr (pe_bm PySem.F.plainAttrs_list PySem.F.slot_list_append PySem.F.type_list_append mt_append (pv 1) (pa_cons (pe_tup (pa_cons (pv 2) (pa_cons (pv 3) pa_nil))) pa_nil)))) pss_nil)))))
    (pss_one (ps_ret (pv 1)))))
theorem ok_Web_beside (T : Txt K mg C) : FnOk P w K mg base CX0 4 T.Web_beside.f T.Web_beside.fd ["self", "point"] (sp_Web_beside K C) := by
  refine T.Web_beside.F.ok sc_Web_beside (fun vs H Q E h => ?_) (fun cdv A outer s H vs Q E hr h => ⟨t_Web_beside K C, ?_, pure_Web_beside T.w h⟩)
  · obtain ⟨_, ss, _, _, ha, hR, _⟩ := h
    rw [SlA.length ha]
    unfold R_beside at hR
    repeat (first | (obtain ⟨rfl, _⟩ := hR; rfl) | (obtain ⟨_, hR⟩ := hR))
  · exact (pss_cons (ps_expr (pe_meth (pv 0) T.cl T.Web_need.M (ok_Web_need T) (hr.mono (by decide)) T.Web_need.b .nil pass0 (pa_cons (pv 1) pa_nil)))
    (pss_one (ps_ret (pe_callTy call_list_of (by rfl) T.b_list (by decide +kernel) (pa_cons (pe_ix ix_seq (pe_fld (pv 0) rfl) (pv 1) (fun _ _ => rfl)) pa_nil)))))
theorem ok_Web_pieces (T : Txt K mg C) : FnOk P w K mg base CX0 2 T.Web_pieces.f T.Web_pieces.fd ["self"] (sp_Web_pieces K C) := by
  refine T.Web_pieces.F.ok sc_Web_pieces (fun vs H Q E h => ?_) (fun cdv A outer s H vs Q E hr h => ⟨t_Web_pieces K C, ?_, pure_Web_pieces T.w h⟩)
  · obtain ⟨_, ss, _, _, ha, hR, _⟩ := h
    rw [SlA.length ha]
    unfold R_pieces at hR
    repeat (first | (obtain ⟨rfl, _⟩ := hR; rfl) | (obtain ⟨_, hR⟩ := hR))
  · exact (pss_cons (ps_set (i := 1) sc_Web_pieces.nd rfl (Or.inl rfl) (pe_lst pa_nil))
    (pss_cons (ps_set (i := 2) sc_Web_pieces.nd rfl (Or.inl rfl) pe_dnewK)
    (pss_cons (ps_for PassesOwn.never rfl (pi_range1 (by rfl) T.b_range (pa_cons (pe_fld (pv 0) rfl) pa_nil)) (pg_name (i := 3) sc_Web_pieces.nd rfl (Or.inl rfl)) (pss_one (ps_if (pt_cmp (pc_dnotin (hu_of hr) (pv 3) (pv 2))) (pss_cons (ps_set (i := 4) sc_Web_pieces.nd rfl (Or.inl rfl) (pe_callB cr_sortedI (by rfl) T.b_sorted (by decide +kernel) (pa_cons (pe_call (ok_come_to T) (hr.mono (by decide)) rfl T.come_to.m T.come_to.F.kp T.come_to.b .nil pass0 (pa_cons (pe_fld (pv 0) rfl) (pa_cons (pv 3) (pa_cons pe_dnewK pa_nil)))) pa_nil)))
    (pss_cons (ps_for PassesOwn.never rfl (pi_list (pv 4)) (pg_name (i := 5) sc_Web_pieces.nd rfl (Or.inl rfl)) (pss_one (ps_dput (hu_of hr) (pv 2) (pv 5) pe_bl rfl)))
    (pss_one (ps_expr (pe_bm PySem.F.plainAttrs_list PySem.F.slot_list_append PySem.F.type_list_append mt_append (pv 1) (pa_cons (pv 4) pa_nil)))))) pss_nil)))
    (pss_one (ps_ret (pv 1))))))
theorem ok_is_turn (T : Txt K mg C) : FnOk P w K mg base CX0 2 T.is_turn.f T.is_turn.fd ["turn", "near"] (sp_is_turn K C) := by
  refine T.is_turn.F.ok sc_is_turn (fun vs H Q E h => ?_) (fun cdv A outer s H vs Q E hr h => ⟨t_is_turn K C, ?_, pure_is_turn h⟩)
  · obtain ⟨_, ss, _, _, ha, hR, _⟩ := h
    rw [SlA.length ha]
    unfold R_is_turn at hR
    repeat (first | (obtain ⟨rfl, _⟩ := hR; rfl) | (obtain ⟨_, hR⟩ := hR))
  · exact (pss_cons (ps_if (PW.pt (pw_or (pt_not (pt_val (pe_callB call_isi (by rfl) T.b_isinstance (by decide +kernel) (pa_cons (pv 0) (pa_cons (pe_bltn (v := .ty "list") (by rfl) T.b_list (by decide +kernel) rfl) pa_nil))))) (pw_or1 (pt_cmpR op_ne (pe_callB call_len_seq (by rfl) T.b_len (by decide +kernel) (pa_cons (pv 0) pa_nil)) (pe_callB call_len_seq (by rfl) T.b_len (by decide +kernel) (pa_cons (pv 1) pa_nil)) (nomark _))))) (pss_one (ps_ret pe_bl)) pss_nil)
    (pss_cons (ps_for PassesOwn.never rfl (pi_list (pv 0)) (pg_name (i := 2) sc_is_turn.nd rfl (Or.inl rfl)) (pss_one (ps_if (pt_not (pt_val (pe_call (ok_is_whole T) (hr.mono (by decide)) rfl T.is_whole.m T.is_whole.F.kp T.is_whole.b .nil pass0 (pa_cons (pv 2) pa_nil)))) (pss_one (ps_ret pe_bl)) pss_nil)))
    (pss_one (ps_ret (pe_cmpR (op_eqD hr.units) (pe_callB cr_sortedI (by rfl) T.b_sorted (by decide +kernel) (pa_cons (pv 0) pa_nil)) (pv 1) (nomark _))))))
theorem ok_are_turns (T : Txt K mg C) : FnOk P w K mg base CX0 3 T.are_turns.f T.are_turns.fd ["web", "turns"] (sp_are_turns K C) := by
  refine T.are_turns.F.ok sc_are_turns (fun vs H Q E h => ?_) (fun cdv A outer s H vs Q E hr h => ⟨t_are_turns K C, ?_, pure_are_turns T.w h⟩)
  · obtain ⟨_, ss, _, _, ha, hR, _⟩ := h
    rw [SlA.length ha]
    unfold R_are_turns at hR
    repeat (first | (obtain ⟨rfl, _⟩ := hR; rfl) | (obtain ⟨_, hR⟩ := hR))
  · exact (pss_cons (ps_if (PW.pt (pw_or (pt_not (pt_val (pe_callB call_isi (by rfl) T.b_isinstance (by decide +kernel) (pa_cons (pv 1) (pa_cons (pe_bltn (v := .ty "list") (by rfl) T.b_list (by decide +kernel) rfl) pa_nil))))) (pw_or1 (pt_cmpR op_ne (pe_callB call_len_seq (by rfl) T.b_len (by decide +kernel) (pa_cons (pv 1) pa_nil)) (pe_fld (pv 0) rfl) (nomark _))))) (pss_one (ps_ret pe_bl)) pss_nil)
    (pss_cons (ps_for PassesOwn.never rfl (pi_range1 (by rfl) T.b_range (pa_cons (pe_fld (pv 0) rfl) pa_nil)) (pg_name (i := 2) sc_are_turns.nd rfl (Or.inl rfl)) (pss_one (ps_if (pt_not (pt_val (pe_call (ok_is_turn T) (hr.mono (by decide)) rfl T.is_turn.m T.is_turn.F.kp T.is_turn.b .nil pass0 (pa_cons (pe_ix ix_seq (pv 1) (pv 2) (fun _ _ => rfl)) (pa_cons (pe_ix ix_seq (pe_fld (pv 0) rfl) (pv 2) (fun _ _ => rfl)) pa_nil))))) (pss_one (ps_ret pe_bl)) pss_nil)))
    (pss_one (ps_ret pe_bl))))
theorem ok_behind (T : Txt K mg C) : FnOk P w K mg base CX0 1 T.behind.f T.behind.fd ["turns", "one", "other"] (sp_behind K C) := by
  refine T.behind.F.ok sc_behind (fun vs H Q E h => ?_) (fun cdv A outer s H vs Q E hr h => ⟨t_behind K C, ?_, pure_behind h⟩)
  · obtain ⟨_, ss, _, _, ha, hR, _⟩ := h
    rw [SlA.length ha]
    unfold R_behind at hR
    repeat (first | (obtain ⟨rfl, _⟩ := hR; rfl) | (obtain ⟨_, hR⟩ := hR))
  · exact (pss_cons (ps_set (i := 3) sc_behind.nd rfl (Or.inl rfl) (pe_ix ix_seq (pv 0) (pv 2) (fun _ _ => rfl)))
    (pss_one (ps_ret (pe_ix ix_seq (pv 3) (pe_op op_mod (pe_op op_add (pe_bm PySem.F.plainAttrs_list PySem.F.slot_list_index PySem.F.type_list_index mt_index (pv 3) (pa_cons (pv 1) pa_nil)) pe_int) (pe_callB call_len_seq (by rfl) T.b_len (by decide +kernel) (pa_cons (pv 3) pa_nil))) (fun _ _ => rfl)))))
theorem ok_walks (T : Txt K mg C) : FnOk P w K mg base CX0 4 T.walks.f T.walks.fd ["web", "turns"] (sp_walks K C) := by
  refine T.walks.F.ok sc_walks (fun vs H Q E h => ?_) (fun cdv A outer s H vs Q E hr h => ⟨t_walks K C, ?_, pure_walks T.w h⟩)
  · obtain ⟨_, ss, _, _, ha, hR, _⟩ := h
    rw [SlA.length ha]
    unfold R_walks at hR
    repeat (first | (obtain ⟨rfl, _⟩ := hR; rfl) | (obtain ⟨_, hR⟩ := hR))
  · exact (pss_cons (ps_if (pt_not (pt_val (pe_call (ok_are_turns T) (hr.mono (by decide)) rfl T.are_turns.m T.are_turns.F.kp T.are_turns.b .nil pass0 (pa_cons (pv 0) (pa_cons (pv 1) pa_nil))))) (pss_one ps_never) pss_nil)
    (pss_cons (ps_set (i := 2) sc_walks.nd rfl (Or.inl rfl) pe_dnewT)
    (pss_cons (ps_set (i := 3) sc_walks.nd rfl (Or.inl rfl) (pe_lst pa_nil))
    (pss_cons (ps_for PassesOwn.never rfl (pi_range1 (by rfl) T.b_range (pa_cons (pe_fld (pv 0) rfl) pa_nil)) (pg_name (i := 4) sc_walks.nd rfl (Or.inl rfl)) (pss_one (ps_for PassesOwn.never rfl (pi_list (pe_ix ix_seq (pe_fld (pv 0) rfl) (pv 4) (fun _ _ => rfl))) (pg_name (i := 5) sc_walks.nd rfl (Or.inl rfl)) (pss_cons (ps_set (i := 6) sc_walks.nd rfl (Or.inl rfl) (pe_lst pa_nil))
    (pss_cons (ps_set (i := 7) sc_walks.nd rfl (Or.inl rfl) (pe_tup (pa_cons (pv 4) (pa_cons (pv 5) pa_nil))))
    (pss_cons (ps_while PassesOwn.never (pt_cmp (pc_dnotin (hu_of hr) (pv 7) (pv 2))) (pss_cons (ps_dput (hu_of hr) (pv 2) (pv 7) pe_bl rfl)
    (pss_cons (ps_expr (pe_bm PySem.F.plainAttrs_list PySem.F.slot_list_append PySem.F.type_list_append mt_append (pv 6) (pa_cons (pe_ix ix_seq (pv 7) pe_int (fun _ _ => rfl)) pa_nil)))
    (pss_one (ps_set (i := 7) sc_walks.nd rfl (Or.inl rfl) (pe_tup (pa_cons (pe_ix ix_seq (pv 7) pe_int (fun _ _ => rfl)) (pa_cons (pe_call (ok_behind T) (hr.mono (by decide)) rfl T.behind.m T.behind.F.kp T.behind.b .nil pass0 (pa_cons (pv 1) (pa_cons (pe_ix ix_seq (pv 7) pe_int (fun _ _ => rfl)) (pa_cons (pe_ix ix_seq (pv 7) pe_int (fun _ _ => rfl)) pa_nil)))) pa_nil))))))))
    (pss_one (ps_if (pt_cmpR (op_neD hr.units) (pv 6) (pe_lst pa_nil) (nomark _)) (pss_one (ps_expr (pe_bm PySem.F.plainAttrs_list PySem.F.slot_list_append PySem.F.type_list_append mt_append (pv 3) (pa_cons (pv 6) pa_nil)))) pss_nil))))))))
    (pss_one (ps_ret (pv 3)))))))
theorem ok_flat (T : Txt K mg C) : FnOk P w K mg base CX0 5 T.flat.f T.flat.fd ["web", "turns"] (sp_flat K C) := by
  refine T.flat.F.ok sc_flat (fun vs H Q E h => ?_) (fun cdv A outer s H vs Q E hr h => ⟨t_flat K C, ?_, pure_flat T.w h⟩)
  · obtain ⟨_, ss, _, _, ha, hR, _⟩ := h
    rw [SlA.length ha]
    unfold R_flat at hR
    repeat (first | (obtain ⟨rfl, _⟩ := hR; rfl) | (obtain ⟨_, hR⟩ := hR))
  · exact (pss_cons (ps_set (i := 2) sc_flat.nd rfl (Or.inl rfl) (pe_call (ok_walks T) (hr.mono (by decide)) rfl T.walks.m T.walks.F.kp T.walks.b .nil pass0 (pa_cons (pv 0) (pa_cons (pv 1) pa_nil))))
    (pss_cons (ps_for PassesOwn.never rfl (pi_list (pe_meth0 (pv 0) T.cl T.Web_pieces.M (ok_Web_pieces T) (hr.mono (by decide)) T.Web_pieces.b .nil pass0)) (pg_name (i := 3) sc_flat.nd rfl (Or.inr rfl)) (pss_cons (ps_set (i := 4) sc_flat.nd rfl (Or.inl rfl) (pe_op op_fdiv (pe_callB (cr_sum rfl) (by rfl) T.b_sum (by decide +kernel) (pa_cons (pe_lc (own := [("point", 7)]) (g := (gName 7)) (tt := tYes) (te := (tCB (xLen K) (tCons (tOp (rIx K) (tFld K (tVar 0) "near") (tVar 7)) tNil))) rfl sc_flat.nd (pi_list (pv 3)) (blkOk_by (N := N_flat) (sc := defScope s_flat) (by decide +kernel)) (fun _ _ _ _ _ => (pg_name (i := 7) sc_flat.nd rfl (Or.inl rfl))) (fun _ _ _ _ _ => pts_nil) (fun _ _ _ _ _ => (pe_callB call_len_seq (by rfl) T.b_len (by decide +kernel) (pa_cons (pe_ix ix_seq (pe_fld (pv 0) rfl) (pv 7) (fun _ _ => rfl)) pa_nil)))) pa_nil)) pe_int))
    (pss_cons (ps_setLc (i := 5) (own := [("walk", 6)]) (g := (gName 6)) (tt := (tTest (tOp (rIn K false) (tOp (rIx K) (tVar 6) (tC (.int 0))) (tVar 3)))) (te := (tVar 6)) rfl sc_flat.nd rfl rfl (sw_true rfl rfl rfl (by decide +kernel)) (pi_list (pv 2)) (blkOk_by (N := N_flat) (sc := defScope s_flat) (by decide +kernel)) (fun _ _ _ _ _ => (pg_name (i := 6) sc_flat.nd rfl (Or.inl rfl))) (fun _ _ _ _ _ => (pts_one (pt_cmpR op_in_seq (pe_ix ix_seq (pv 6) pe_int (fun _ _ => rfl)) (pv 3) (by rfl)))) (fun _ _ _ _ _ => (pv 6)))
    (pss_one (ps_if (PW.pt (pw_and (pt_cmpR op_gt (pv 4) pe_int (nomark _)) (pw_and1 (pt_cmpR op_ne (pe_callB call_len_seq (by rfl) T.b_len (by decide +kernel) (pa_cons (pv 5) pa_nil)) (pe_op op_add (pe_op op_sub (pv 4) (pe_callB call_len_seq (by rfl) T.b_len (by decide +kernel) (pa_cons (pv 3) pa_nil))) pe_int) (nomark _))))) (pss_one (ps_ret pe_bl)) pss_nil)))))
    (pss_one (ps_ret pe_bl))))
theorem ok_pair_of (T : Txt K mg C) : FnOk P w K mg base CX0 1 T.pair_of.f T.pair_of.fd ["one", "other"] (sp_pair_of K C) := by
  refine T.pair_of.F.ok sc_pair_of (fun vs H Q E h => ?_) (fun cdv A outer s H vs Q E hr h => ⟨t_pair_of K C, ?_, pure_pair_of h⟩)
  · obtain ⟨_, ss, _, _, ha, hR, _⟩ := h
    rw [SlA.length ha]
    unfold R_pair at hR
    repeat (first | (obtain ⟨rfl, _⟩ := hR; rfl) | (obtain ⟨_, hR⟩ := hR))
  · exact (pss_one (ps_ret (pe_tup (pa_cons (pe_callB (call_min2 rfl) (by rfl) T.b_min (by decide +kernel) (pa_cons (pv 0) (pa_cons (pv 1) pa_nil))) (pa_cons (pe_callB (call_max2 rfl) (by rfl) T.b_max (by decide +kernel) (pa_cons (pv 0) (pa_cons (pv 1) pa_nil))) pa_nil)))))
theorem ok_joined (T : Txt K mg C) : FnOk P w K mg base CX0 1 T.joined.f T.joined.fd ["labels", "one", "other"] (sp_joined K C) := by
  refine T.joined.F.ok sc_joined (fun vs H Q E h => ?_) (fun cdv A outer s H vs Q E hr h => ⟨t_joined K C, ?_, pure_joined h⟩)
  · obtain ⟨_, _, _, ws, ss, _, _, rfl, _, _, _, _, _, ha, hR, _⟩ := h
    rw [List.length_cons, SlA.length ha]
    unfold R_joined at hR
    repeat (first | (obtain ⟨rfl, _⟩ := hR; rfl) | (obtain ⟨_, hR⟩ := hR))
  · exact (pss_cons (ps_set (i := 3) sc_joined.nd rfl (Or.inl rfl) (pe_dget (hu_of hr) (pv 0) (pv 1) (fun _ _ => rfl)))
    (pss_cons (ps_set (i := 4) sc_joined.nd rfl (Or.inl rfl) (pe_dget (hu_of hr) (pv 0) (pv 2) (fun _ _ => rfl)))
    (pss_one (ps_for PassesOwn.never rfl (pi_list (pe_callTy (call_list_dT rfl) (by rfl) T.b_list (by decide +kernel) (pa_cons (pv 0) pa_nil))) (pg_name (i := 5) sc_joined.nd rfl (Or.inl rfl)) (pss_one (ps_if (pt_cmpR (op_eqD hr.units) (pe_dget (hu_of hr) (pv 0) (pv 5) (fun _ _ => rfl)) (pv 4) (nomark _)) (pss_one (ps_dput (hu_of hr) (pv 0) (pv 5) (pv 3) rfl)) pss_nil))))))
theorem ok_blocks (T : Txt K mg C) : FnOk P w K mg base CX0 5 T.blocks.f T.blocks.fd ["web"] (sp_blocks K C) := by
  refine T.blocks.F.ok sc_blocks (fun vs H Q E h => ?_) (fun cdv A outer s H vs Q E hr h => ⟨t_blocks K C, ?_, pure_blocks T.w h⟩)
  · obtain ⟨_, ss, _, _, ha, hR, _⟩ := h
    rw [SlA.length ha]
    unfold R_blocks at hR
    repeat (first | (obtain ⟨rfl, _⟩ := hR; rfl) | (obtain ⟨_, hR⟩ := hR))
  · exact (pss_cons (ps_set (i := 1) sc_blocks.nd rfl (Or.inl rfl) pe_dnewT)
    (pss_cons (ps_for PassesOwn.never rfl (pi_list (pe_meth0 (pv 0) T.cl T.Web_ties.M (ok_Web_ties T) (hr.mono (by decide)) T.Web_ties.b .nil pass0)) (pg_name (i := 2) sc_blocks.nd rfl (Or.inl rfl)) (pss_one (ps_dput (hu_of hr) (pv 1) (pv 2) (pv 2) rfl)))
    (pss_cons (ps_for PassesOwn.never rfl (pi_range1 (by rfl) T.b_range (pa_cons (pe_fld (pv 0) rfl) pa_nil)) (pg_name (i := 3) sc_blocks.nd rfl (Or.inl rfl)) (pss_cons (ps_set (i := 4) sc_blocks.nd rfl (Or.inl rfl) (pe_meth (pv 0) T.cl T.Web_beside.M (ok_Web_beside T) (hr.mono (by decide)) T.Web_beside.b .nil pass0 (pa_cons (pv 3) pa_nil)))
    (pss_one (ps_while PassesOwn.never (pt_cmpR (op_neD hr.units) (pv 4) (pe_lst pa_nil) (nomark _)) (pss_cons (ps_set (i := 5) sc_blocks.nd rfl (Or.inl rfl) (pe_ix ix_seq (pv 4) pe_int (fun _ _ => rfl)))
    (pss_cons (ps_set (i := 6) sc_blocks.nd rfl (Or.inr rfl) (pe_call (ok_come_to T) (hr.mono (by decide)) rfl T.come_to.m T.come_to.F.kp T.come_to.b .nil pass0 (pa_cons (pe_fld (pv 0) rfl) (pa_cons (pv 5) (pa_cons (pe_disp (pps_cons (pv 3) pe_bl pps_nil) (by rfl) (by rfl) (fun z => by cases z) (by decide)) pa_nil)))))
    (pss_cons (ps_for PassesOwn.never rfl (pi_list (pv 4)) (pg_name (i := 7) sc_blocks.nd rfl (Or.inl rfl)) (pss_one (ps_if (pt_cmpR op_in_seq (pv 7) (pv 6) (by rfl)) (pss_one (ps_expr (pe_call (ok_joined T) (hr.mono (by decide)) rfl T.joined.m T.joined.F.kp T.joined.b .nil pass0 (pa_cons (pv 1) (pa_cons (pe_call (ok_pair_of T) (hr.mono (by decide)) rfl T.pair_of.m T.pair_of.F.kp T.pair_of.b .nil pass0 (pa_cons (pv 3) (pa_cons (pv 5) pa_nil))) (pa_cons (pe_call (ok_pair_of T) (hr.mono (by decide)) rfl T.pair_of.m T.pair_of.F.kp T.pair_of.b .nil pass0 (pa_cons (pv 3) (pa_cons (pv 7) pa_nil))) pa_nil)))))) pss_nil)))
    (pss_one (ps_setLc (i := 4) (own := [("other", 7)]) (g := (gName 7)) (tt := (tTest (tOp (rIn K true) (tVar 7) (tVar 6)))) (te := (tVar 7)) rfl sc_blocks.nd rfl rfl (sw_true rfl rfl rfl (by decide +kernel)) (pi_list (pv 4)) (blkOk_by (N := N_blocks) (sc := defScope s_blocks) (by decide +kernel)) (fun _ _ _ _ _ => (pg_name (i := 7) sc_blocks.nd rfl (Or.inl rfl))) (fun _ _ _ _ _ => (pts_one (pt_cmpR op_notIn_seq (pv 7) (pv 6) (by rfl)))) (fun _ _ _ _ _ => (pv 7)))))))))))
    (pss_cons (ps_set (i := 8) sc_blocks.nd rfl (Or.inl rfl) pe_dnewT)
    (pss_cons (ps_for PassesOwn.never rfl (pi_list (pe_callB (FY.cr_sortedT2 rfl (Nat.lt_of_succ_lt (FX.hr65 hr))) (by rfl) T.b_sorted (by decide +kernel) (pa_cons (pv 1) pa_nil))) (pg_name (i := 2) sc_blocks.nd rfl (Or.inl rfl)) (pss_one (ps_expr (pe_bm PySem.F.plainAttrs_list PySem.F.slot_list_append PySem.F.type_list_append mt_append (pe_bm PySem.F.plainAttrs_dict PySem.F.slot_dict_setdefault PySem.F.type_dict_setdefault (FY.mt_setdT (hu_of hr)) (pv 8) (pa_cons (pe_dget (hu_of hr) (pv 1) (pv 2) (fun _ _ => rfl)) (pa_cons (pe_lst pa_nil) pa_nil))) (pa_cons (pv 2) pa_nil)))))
    (pss_one (ps_ret (pe_callB (FY.cr_sortedD (Nat.lt_of_succ_lt (FX.hr65 hr))) (by rfl) T.b_sorted (by decide +kernel) (pa_cons (pe_callTy (FY.call_listV rfl) (by rfl) T.b_list (by decide +kernel) (pa_cons (pe_bm0 PySem.F.plainAttrs_dict PySem.F.slot_dict_values PySem.F.type_dict_values FY.mt_valsT (pv 8)) pa_nil)) pa_nil)))))))))
theorem ok_near_of (T : Txt K mg C) : FnOk P w K mg base CX0 1 T.near_of.f T.near_of.fd ["ties"] (sp_near_of K C) := by
  refine T.near_of.F.ok sc_near_of (fun vs H Q E h => ?_) (fun cdv A outer s H vs Q E hr h => ⟨t_near_of K C, ?_, pure_near_of h⟩)
  · obtain ⟨_, ss, _, _, ha, hR, _⟩ := h
    rw [SlA.length ha]
    unfold R_near_of at hR
    repeat (first | (obtain ⟨rfl, _⟩ := hR; rfl) | (obtain ⟨_, hR⟩ := hR))
  · exact (pss_cons (ps_set (i := 1) sc_near_of.nd rfl (Or.inl rfl) pe_dnewK)
    (pss_cons (ps_for PassesOwn.never rfl (pi_list (pv 0)) (pg_tup rfl (pgs_cons (pg_name (i := 2) sc_near_of.nd rfl (Or.inl rfl)) (pgs_cons (pg_name (i := 3) sc_near_of.nd rfl (Or.inl rfl)) pgs_nil))) (pss_cons (ps_expr (pe_bm PySem.F.plainAttrs_list PySem.F.slot_list_append PySem.F.type_list_append mt_append (pe_dsetd (pv 1) (pv 2) (pe_lst pa_nil) ⟨rfl, rfl, rfl, rfl⟩) (pa_cons (pv 3) pa_nil)))
    (pss_one (ps_expr (pe_bm PySem.F.plainAttrs_list PySem.F.slot_list_append PySem.F.type_list_append mt_append (pe_dsetd (pv 1) (pv 3) (pe_lst pa_nil) ⟨rfl, rfl, rfl, rfl⟩) (pa_cons (pv 2) pa_nil))))))
    (pss_one (ps_ret (pv 1)))))
theorem ok_way_in (T : Txt K mg C) : FnOk P w K mg base CX0 1 T.way_in.f T.way_in.fd ["near", "start", "goals", "inner"] (sp_way_in K C) := by
  refine T.way_in.F.ok sc_way_in (fun vs H Q E h => ?_) (fun cdv A outer s H vs Q E hr h => ⟨t_way_in K C, ?_, pure_way_in h⟩)
  · obtain ⟨_, ss, _, _, ha, hR, _⟩ := h
    rw [SlA.length ha]
    unfold R_way_in at hR
    repeat (first | (obtain ⟨rfl, _⟩ := hR; rfl) | (obtain ⟨_, hR⟩ := hR))
  · exact (pss_cons (ps_set (i := 4) sc_way_in.nd rfl (Or.inl rfl) pe_dnewK)
    (pss_cons (ps_set (i := 5) sc_way_in.nd rfl (Or.inl rfl) (pe_lst (pa_cons (pv 1) pa_nil)))
    (pss_cons (ps_set (i := 6) sc_way_in.nd rfl (Or.inl rfl) pe_int)
    (pss_cons (ps_while PassesOwn.never (pt_cmpR op_lt (pv 6) (pe_callB call_len_seq (by rfl) T.b_len (by decide +kernel) (pa_cons (pv 5) pa_nil)) (nomark _)) (pss_cons (ps_set (i := 7) sc_way_in.nd rfl (Or.inl rfl) (pe_ix ix_seq (pv 5) (pv 6) (fun _ _ => rfl)))
    (pss_cons (ps_set (i := 6) sc_way_in.nd rfl (Or.inl rfl) (pe_op op_add (pv 6) pe_int))
    (pss_one (ps_for PassesOwn.never rfl (pi_list (pe_dget (hu_of hr) (pv 0) (pv 7) (fun _ _ => rfl))) (pg_name (i := 8) sc_way_in.nd rfl (Or.inl rfl)) (pss_cons (ps_if (PW.pt (pw_and (pt_cmpR op_in_seq (pv 8) (pv 2) (by rfl)) (pw_and1 (PW.pt (pw_or (pt_cmpR op_ne (pv 7) (pv 1) (nomark _)) (pw_or1 (pt_cmpR (op_eqD hr.units) (pv 3) (pe_lst pa_nil) (nomark _)))))))) (pss_cons (ps_set (i := 9) sc_way_in.nd rfl (Or.inl rfl) (pe_lst (pa_cons (pv 8) (pa_cons (pv 7) pa_nil))))
    (pss_cons (ps_while PassesOwn.never (pt_cmpR op_ne (pe_ix ix_seq (pv 9) (pe_un un_neg pe_int) (fun _ _ => rfl)) (pv 1) (nomark _)) (pss_one (ps_expr (pe_bm PySem.F.plainAttrs_list PySem.F.slot_list_append PySem.F.type_list_append mt_append (pv 9) (pa_cons (pe_dget (hu_of hr) (pv 4) (pe_ix ix_seq (pv 9) (pe_un un_neg pe_int) (fun _ _ => rfl)) (fun _ _ => rfl)) pa_nil)))))
    (pss_cons (ps_expr (pe_bm0 PySem.F.plainAttrs_list PySem.F.slot_list_reverse PySem.F.type_list_reverse mt_reverse (pv 9)))
    (pss_one (ps_ret (pv 9)))))) pss_nil)
    (pss_one (ps_if (PW.pt (pw_and (pt_cmpR op_in_seq (pv 8) (pv 3) (by rfl)) (pw_and1 (pt_cmp (pc_dnotin (hu_of hr) (pv 8) (pv 4)))))) (pss_cons (ps_dput (hu_of hr) (pv 4) (pv 8) (pv 7) rfl)
    (pss_one (ps_expr (pe_bm PySem.F.plainAttrs_list PySem.F.slot_list_append PySem.F.type_list_append mt_append (pv 5) (pa_cons (pv 8) pa_nil))))) pss_nil))))))))
    (pss_one (ps_ret (pe_lst pa_nil)))))))
theorem ok_first_ring (T : Txt K mg C) : FnOk P w K mg base CX0 2 T.first_ring.f T.first_ring.fd ["near", "tie"] (sp_first_ring K C) := by
  refine T.first_ring.F.ok sc_first_ring (fun vs H Q E h => ?_) (fun cdv A outer s H vs Q E hr h => ⟨t_first_ring K C, ?_, pure_first_ring h⟩)
  · obtain ⟨_, ss, _, _, ha, hR, _⟩ := h
    rw [SlA.length ha]
    unfold R_first_ring at hR
    repeat (first | (obtain ⟨rfl, _⟩ := hR; rfl) | (obtain ⟨_, hR⟩ := hR))
  · exact (pss_cons (ps_lock (ps_setLc (i := 2) (own := [("point", 3)]) (g := (gName 3)) (tt := (tTest (tOp (rIn K true) (tVar 3) (tVar 1)))) (te := (tVar 3)) rfl sc_first_ring.nd rfl rfl (sw_true rfl rfl rfl (by decide +kernel)) (pi_keys (pv 0)) (blkOk_by (N := N_first_ring) (sc := defScope s_first_ring) (by decide +kernel)) (fun _ _ _ _ _ => (pg_name (i := 3) sc_first_ring.nd rfl (Or.inl rfl))) (fun _ _ _ _ _ => (pts_one (pt_cmpR op_notIn_seq (pv 3) (pv 1) (by rfl)))) (fun _ _ _ _ _ => (pv 3))))
    (pss_one (ps_ret (pe_call (ok_way_in T) (hr.mono (by decide)) rfl T.way_in.m T.way_in.F.kp T.way_in.b .nil pass0 (pa_cons (pv 0) (pa_cons (pe_ix ix_seq (pv 1) pe_int (fun _ _ => rfl)) (pa_cons (pe_lst (pa_cons (pe_ix ix_seq (pv 1) pe_int (fun _ _ => rfl)) pa_nil)) (pa_cons (pv 2) pa_nil))))))))
theorem ok_pieces_left (T : Txt K mg C) : FnOk P w K mg base CX0 2 T.pieces_left.f T.pieces_left.fd ["near", "ties", "placed", "laid"] (sp_pieces_left K C) := by
  refine T.pieces_left.F.ok sc_pieces_left (fun vs H Q E h => ?_) (fun cdv A outer s H vs Q E hr h => ⟨t_pieces_left K C, ?_, pure_pieces_left h⟩)
  · obtain ⟨_, ss, _, _, ha, hR, _⟩ := h
    rw [SlA.length ha]
    unfold R_pieces_left at hR
    repeat (first | (obtain ⟨rfl, _⟩ := hR; rfl) | (obtain ⟨_, hR⟩ := hR))
  · exact (pss_cons (ps_set (i := 4) sc_pieces_left.nd rfl (Or.inl rfl) (pe_lst pa_nil))
    (pss_cons (ps_for PassesOwn.never rfl (pi_list (pv 1)) (pg_name (i := 5) sc_pieces_left.nd rfl (Or.inl rfl)) (pss_one (ps_if (PW.pt (pw_and (pt_cmp (pc_dnotin (hu_of hr) (pv 5) (pv 3))) (pw_and (pt_cmp (pc_din (hu_of hr) (pe_ix ix_seq (pv 5) pe_int (fun _ _ => rfl)) (pv 2))) (pw_and1 (pt_cmp (pc_din (hu_of hr) (pe_ix ix_seq (pv 5) pe_int (fun _ _ => rfl)) (pv 2))))))) (pss_one (ps_expr (pe_bm PySem.F.plainAttrs_list PySem.F.slot_list_append PySem.F.type_list_append mt_append (pv 4) (pa_cons (pe_tup (pa_cons (pe_lst (pa_cons (pe_ix ix_seq (pv 5) pe_int (fun _ _ => rfl)) (pa_cons (pe_ix ix_seq (pv 5) pe_int (fun _ _ => rfl)) pa_nil))) (pa_cons (pe_lst pa_nil) pa_nil))) pa_nil)))) pss_nil)))
    (pss_cons (ps_set (i := 6) sc_pieces_left.nd rfl (Or.inl rfl) pe_dnewK)
    (pss_cons (ps_lock (ps_for PassesOwn.never rfl (pi_keys (pv 0)) (pg_name (i := 7) sc_pieces_left.nd rfl (Or.inl rfl)) (pss_one (ps_if (PW.pt (pw_and (pt_cmp (pc_dnotin (hu_of hr) (pv 7) (pv 2))) (pw_and1 (pt_cmp (pc_dnotin (hu_of hr) (pv 7) (pv 6)))))) (pss_cons (ps_set (i := 8) sc_pieces_left.nd rfl (Or.inl rfl) (pe_call (ok_come_to T) (hr.mono (by decide)) rfl T.come_to.m T.come_to.F.kp T.come_to.b .nil pass0 (pa_cons (pv 0) (pa_cons (pv 7) (pa_cons (pv 2) pa_nil)))))
    (pss_cons (ps_set (i := 9) sc_pieces_left.nd rfl (Or.inl rfl) pe_dnewK)
    (pss_cons (ps_for PassesOwn.never rfl (pi_list (pv 8)) (pg_name (i := 10) sc_pieces_left.nd rfl (Or.inl rfl)) (pss_cons (ps_dput (hu_of hr) (pv 6) (pv 10) pe_bl rfl)
    (pss_one (ps_for PassesOwn.never rfl (pi_list (pe_dget (hu_of hr) (pv 0) (pv 10) (fun _ _ => rfl))) (pg_name (i := 11) sc_pieces_left.nd rfl (Or.inl rfl)) (pss_one (ps_if (pt_cmp (pc_din (hu_of hr) (pv 11) (pv 2))) (pss_one (ps_dput (hu_of hr) (pv 9) (pv 11) pe_bl rfl)) pss_nil))))))
    (pss_one (ps_expr (pe_bm PySem.F.plainAttrs_list PySem.F.slot_list_append PySem.F.type_list_append mt_append (pv 4) (pa_cons (pe_tup (pa_cons (pe_callB (FU.cr_sortedDI rfl) (by rfl) T.b_sorted (by decide +kernel) (pa_cons (pv 9) pa_nil)) (pa_cons (pv 8) pa_nil))) pa_nil))))))) pss_nil))))
    (pss_one (ps_ret (pv 4)))))))
theorem ok_fields_for (T : Txt K mg C) : FnOk P w K mg base CX0 1 T.fields_for.f T.fields_for.fd ["fields", "ends"] (sp_fields_for K C) := by
  refine T.fields_for.F.ok sc_fields_for (fun vs H Q E h => ?_) (fun cdv A outer s H vs Q E hr h => ⟨t_fields_for K C, ?_, pure_fields_for h⟩)
  · obtain ⟨_, ss, _, _, ha, hR, _⟩ := h
    rw [SlA.length ha]
    unfold R_fields_for at hR
    repeat (first | (obtain ⟨rfl, _⟩ := hR; rfl) | (obtain ⟨_, hR⟩ := hR))
  · exact (pss_cons (ps_set (i := 2) sc_fields_for.nd rfl (Or.inl rfl) (pe_lst pa_nil))
    (pss_cons (ps_for PassesOwn.never rfl (pi_range1 (by rfl) T.b_range (pa_cons (pe_callB call_len_seq (by rfl) T.b_len (by decide +kernel) (pa_cons (pv 0) pa_nil)) pa_nil)) (pg_name (i := 3) sc_fields_for.nd rfl (Or.inr rfl)) (pss_one (ps_if (pt_cmpR (op_eqD hr.units) (pe_lc (own := [("point", 4)]) (g := (gName 4)) (tt := (tTest (tOp (rIn K true) (tVar 4) (tOp (rIx K) (tVar 0) (tVar 3))))) (te := (tVar 4)) rfl sc_fields_for.nd (pi_list (pv 1)) (blkOk_by (N := N_fields_for) (sc := defScope s_fields_for) (by decide +kernel)) (fun _ _ _ _ _ => (pg_name (i := 4) sc_fields_for.nd rfl (Or.inl rfl))) (fun _ _ _ _ _ => (pts_one (pt_cmpR op_notIn_seq (pv 4) (pe_ix ix_seq (pv 0) (pv 3) (fun _ _ => rfl)) (by rfl)))) (fun _ _ _ _ _ => (pv 4))) (pe_lst pa_nil) (nomark _)) (pss_one (ps_expr (pe_bm PySem.F.plainAttrs_list PySem.F.slot_list_append PySem.F.type_list_append mt_append (pv 2) (pa_cons (pv 3) pa_nil)))) pss_nil)))
    (pss_one (ps_ret (pv 2)))))
theorem ok_parted (T : Txt K mg C) : FnOk P w K mg base CX0 1 T.parted.f T.parted.fd ["field", "way"] (sp_parted K C) := by
  refine T.parted.F.ok sc_parted (fun vs H Q E h => ?_) (fun cdv A outer s H vs Q E hr h => ⟨t_parted K C, ?_, pure_parted h⟩)
  · obtain ⟨_, ss, _, _, ha, hR, _⟩ := h
    rw [SlA.length ha]
    unfold R_parted at hR
    repeat (first | (obtain ⟨rfl, _⟩ := hR; rfl) | (obtain ⟨_, hR⟩ := hR))
  · exact (pss_cons (ps_set (i := 2) sc_parted.nd rfl (Or.inl rfl) (pe_bm PySem.F.plainAttrs_list PySem.F.slot_list_index PySem.F.type_list_index mt_index (pv 0) (pa_cons (pe_ix ix_seq (pv 1) pe_int (fun _ _ => rfl)) pa_nil)))
    (pss_cons (ps_set (i := 3) sc_parted.nd rfl (Or.inl rfl) (pe_op op_cat (pe_slice sl_list (pv 0) (po_some (pv 2)) po_none) (pe_slice sl_list (pv 0) po_none (po_some (pv 2)))))
    (pss_cons (ps_set (i := 4) sc_parted.nd rfl (Or.inl rfl) (pe_bm PySem.F.plainAttrs_list PySem.F.slot_list_index PySem.F.type_list_index mt_index (pv 3) (pa_cons (pe_ix ix_seq (pv 1) (pe_un un_neg pe_int) (fun _ _ => rfl)) pa_nil)))
    (pss_cons (ps_set (i := 5) sc_parted.nd rfl (Or.inl rfl) (pe_slice sl_list (pv 1) (po_some pe_int) (po_some (pe_un un_neg pe_int))))
    (pss_one (ps_ret (pe_lst (pa_cons (pe_op op_cat (pe_slice sl_list (pv 3) po_none (po_some (pe_op op_add (pv 4) pe_int))) (FV.pe_lstRev rfl (by rfl) T.b_list (by rfl) T.b_reversed (pv 5))) (pa_cons (pe_op op_cat (pe_op op_cat (pe_slice sl_list (pv 3) (po_some (pv 4)) po_none) (pe_lst (pa_cons (pe_ix ix_seq (pv 3) pe_int (fun _ _ => rfl)) pa_nil))) (pv 5)) pa_nil)))))))))
theorem ok_chosen (T : Txt K mg C) : FnOk P w K mg base CX0 2 T.chosen.f T.chosen.fd ["fields", "left"] (sp_chosen K C) := by
  refine T.chosen.F.ok sc_chosen (fun vs H Q E h => ?_) (fun cdv A outer s H vs Q E hr h => ⟨t_chosen K C, ?_, pure_chosen h⟩)
  · obtain ⟨_, ss, _, _, ha, hR, _⟩ := h
    rw [SlA.length ha]
    unfold R_chosen at hR
    repeat (first | (obtain ⟨rfl, _⟩ := hR; rfl) | (obtain ⟨_, hR⟩ := hR))
  · exact (pss_cons (ps_set (i := 2) sc_chosen.nd rfl (Or.inl rfl) pe_non)
    (pss_cons (ps_for PassesOwn.never rfl (pi_list (pv 1)) (pg_tup rfl (pgs_cons (pg_name (i := 3) sc_chosen.nd rfl (Or.inl rfl)) (pgs_cons (pg_name (i := 4) sc_chosen.nd rfl (Or.inl rfl)) pgs_nil))) (pss_cons (ps_set (i := 5) sc_chosen.nd rfl (Or.inl rfl) (pe_call (ok_fields_for T) (hr.mono (by decide)) rfl T.fields_for.m T.fields_for.F.kp T.fields_for.b .nil pass0 (pa_cons (pv 0) (pa_cons (pv 3) pa_nil))))
    (pss_one (ps_if (PW.pt (pw_or (pt_cmpR op_isN (pv 2) pe_non (nomark _)) (pw_or1 (pt_cmpR op_lt (pe_callB call_len_seq (by rfl) T.b_len (by decide +kernel) (pa_cons (pv 5) pa_nil)) (pe_callB call_len_seq (by rfl) T.b_len (by decide +kernel) (pa_cons (pe_ix ix_seq (pv 2) pe_int (fun _ _ => rfl)) pa_nil)) (nomark _))))) (pss_one (ps_set (i := 2) sc_chosen.nd rfl (Or.inl rfl) (pe_tup (pa_cons (pv 3) (pa_cons (pv 4) (pa_cons (pv 5) pa_nil)))))) pss_nil))))
    (pss_one (ps_ret (pv 2)))))
theorem ok_fields_of (T : Txt K mg C) : FnOk P w K mg base CX0 3 T.fields_of.f T.fields_of.fd ["ties"] (sp_fields_of K C) := by
  refine T.fields_of.F.ok sc_fields_of (fun vs H Q E h => ?_) (fun cdv A outer s H vs Q E hr h => ⟨t_fields_of K C, ?_, pure_fields_of h⟩)
  · obtain ⟨_, ss, _, _, ha, hR, _⟩ := h
    rw [SlA.length ha]
    unfold R_fields_of at hR
    repeat (first | (obtain ⟨rfl, _⟩ := hR; rfl) | (obtain ⟨_, hR⟩ := hR))
  · exact (pss_cons (ps_set (i := 1) sc_fields_of.nd rfl (Or.inl rfl) (pe_call (ok_near_of T) (hr.mono (by decide)) rfl T.near_of.m T.near_of.F.kp T.near_of.b .nil pass0 (pa_cons (pv 0) pa_nil)))
    (pss_cons (ps_set (i := 2) sc_fields_of.nd rfl (Or.inl rfl) (pe_call (ok_first_ring T) (hr.mono (by decide)) rfl T.first_ring.m T.first_ring.F.kp T.first_ring.b .nil pass0 (pa_cons (pv 1) (pa_cons (pe_ix ix_seq (pv 0) pe_int (fun _ _ => rfl)) pa_nil))))
    (pss_cons (ps_set (i := 3) sc_fields_of.nd rfl (Or.inl rfl) (pe_lst (pa_cons (pv 2) (pa_cons (FV.pe_lstRev rfl (by rfl) T.b_list (by rfl) T.b_reversed (pv 2)) pa_nil))))
    (pss_cons (ps_set (i := 4) sc_fields_of.nd rfl (Or.inl rfl) pe_dnewK)
    (pss_cons (ps_set (i := 5) sc_fields_of.nd rfl (Or.inl rfl) pe_dnewT)
    (pss_cons (ps_for PassesOwn.never rfl (pi_range1 (by rfl) T.b_range (pa_cons (pe_callB call_len_seq (by rfl) T.b_len (by decide +kernel) (pa_cons (pv 2) pa_nil)) pa_nil)) (pg_name (i := 6) sc_fields_of.nd rfl (Or.inl rfl)) (pss_cons (ps_dput (hu_of hr) (pv 4) (pe_ix ix_seq (pv 2) (pv 6) (fun _ _ => rfl)) pe_bl rfl)
    (pss_one (ps_dput (hu_of hr) (pv 5) (pe_call (ok_pair_of T) (hr.mono (by decide)) rfl T.pair_of.m T.pair_of.F.kp T.pair_of.b .nil pass0 (pa_cons (pe_ix ix_seq (pv 2) (pe_op op_sub (pv 6) pe_int) (fun _ _ => rfl)) (pa_cons (pe_ix ix_seq (pv 2) (pv 6) (fun _ _ => rfl)) pa_nil))) pe_bl rfl))))
    (pss_cons (ps_while PassesOwn.never (pt_cmpR op_lt (pe_callB call_len_dT (by rfl) T.b_len (by decide +kernel) (pa_cons (pv 5) pa_nil)) (pe_callB call_len_seq (by rfl) T.b_len (by decide +kernel) (pa_cons (pv 0) pa_nil)) (nomark _)) (pss_cons (ps_asg (pe_call (ok_chosen T) (hr.mono (by decide)) rfl T.chosen.m T.chosen.F.kp T.chosen.b .nil pass0 (pa_cons (pv 3) (pa_cons (pe_call (ok_pieces_left T) (hr.mono (by decide)) rfl T.pieces_left.m T.pieces_left.F.kp T.pieces_left.b .nil pass0 (pa_cons (pv 1) (pa_cons (pv 0) (pa_cons (pv 4) (pa_cons (pv 5) pa_nil))))) pa_nil))) (pg_tup rfl (pgs_cons (pg_name (i := 9) sc_fields_of.nd rfl (Or.inl rfl)) (pgs_cons (pg_name (i := 10) sc_fields_of.nd rfl (Or.inl rfl)) (pgs_cons (pg_name (i := 11) sc_fields_of.nd rfl (Or.inl rfl)) pgs_nil)))))
    (pss_cons (ps_if (pt_cmpR (op_eqD hr.units) (pv 11) (pe_lst pa_nil) (nomark _)) (pss_one (ps_ret pe_non)) pss_nil)
    (pss_cons (ps_set (i := 7) sc_fields_of.nd rfl (Or.inl rfl) (pe_call (ok_way_in T) (hr.mono (by decide)) rfl T.way_in.m T.way_in.F.kp T.way_in.b .nil pass0 (pa_cons (pv 1) (pa_cons (pe_ix ix_seq (pv 9) pe_int (fun _ _ => rfl)) (pa_cons (pe_slice sl_list (pv 9) (po_some pe_int) po_none) (pa_cons (pv 10) pa_nil))))))
    (pss_cons (ps_set (i := 8) sc_fields_of.nd rfl (Or.inl rfl) (pe_bm PySem.F.plainAttrs_list PySem.F.slot_list_pop PySem.F.type_list_pop mt_popAt (pv 3) (pa_cons (pe_ix ix_seq (pv 11) pe_int (fun _ _ => rfl)) pa_nil)))
    (pss_cons (ps_set (i := 3) sc_fields_of.nd rfl (Or.inl rfl) (pe_op op_cat (pv 3) (pe_call (ok_parted T) (hr.mono (by decide)) rfl T.parted.m T.parted.F.kp T.parted.b .nil pass0 (pa_cons (pv 8) (pa_cons (pv 7) pa_nil)))))
    (pss_one (ps_for PassesOwn.never rfl (pi_range2 (by rfl) T.b_range (pa_cons pe_int (pa_cons (pe_callB call_len_seq (by rfl) T.b_len (by decide +kernel) (pa_cons (pv 7) pa_nil)) pa_nil))) (pg_name (i := 6) sc_fields_of.nd rfl (Or.inl rfl)) (pss_cons (ps_dput (hu_of hr) (pv 4) (pe_ix ix_seq (pv 7) (pv 6) (fun _ _ => rfl)) pe_bl rfl)
    (pss_one (ps_dput (hu_of hr) (pv 5) (pe_call (ok_pair_of T) (hr.mono (by decide)) rfl T.pair_of.m T.pair_of.F.kp T.pair_of.b .nil pass0 (pa_cons (pe_ix ix_seq (pv 7) (pe_op op_sub (pv 6) pe_int) (fun _ _ => rfl)) (pa_cons (pe_ix ix_seq (pv 7) (pv 6) (fun _ _ => rfl)) pa_nil))) pe_bl rfl)))))))))))
    (pss_one (ps_ret (pv 3))))))))))
theorem ok_turns_of (T : Txt K mg C) : FnOk P w K mg base CX0 1 T.turns_of.f T.turns_of.fd ["fields", "near"] (sp_turns_of K C) := by
  refine T.turns_of.F.ok sc_turns_of (fun vs H Q E h => ?_) (fun cdv A outer s H vs Q E hr h => ⟨t_turns_of K C, ?_, pure_turns_of h⟩)
  · obtain ⟨_, ss, _, _, ha, hR, _⟩ := h
    rw [SlA.length ha]
    unfold R_turns_of at hR
    repeat (first | (obtain ⟨rfl, _⟩ := hR; rfl) | (obtain ⟨_, hR⟩ := hR))
  · exact (pss_cons (ps_set (i := 2) sc_turns_of.nd rfl (Or.inl rfl) pe_dnewT)
    (pss_cons (ps_for PassesOwn.never rfl (pi_list (pv 0)) (pg_name (i := 3) sc_turns_of.nd rfl (Or.inl rfl)) (pss_one (ps_for PassesOwn.never rfl (pi_range1 (by rfl) T.b_range (pa_cons (pe_callB call_len_seq (by rfl) T.b_len (by decide +kernel) (pa_cons (pv 3) pa_nil)) pa_nil)) (pg_name (i := 4) sc_turns_of.nd rfl (Or.inl rfl)) (pss_one (ps_dput (hu_of hr) (pv 2) (pe_tup (pa_cons (pe_ix ix_seq (pv 3) (pe_op op_sub (pv 4) pe_int) (fun _ _ => rfl)) (pa_cons (pe_ix ix_seq (pv 3) (pe_op op_sub (pv 4) pe_int) (fun _ _ => rfl)) pa_nil))) (pe_ix ix_seq (pv 3) (pv 4) (fun _ _ => rfl)) rfl)))))
    (pss_cons (ps_set (i := 5) sc_turns_of.nd rfl (Or.inl rfl) pe_dnewK)
    (pss_cons (ps_lock (ps_for PassesOwn.never rfl (pi_keys (pv 1)) (pg_name (i := 6) sc_turns_of.nd rfl (Or.inl rfl)) (pss_cons (ps_set (i := 7) sc_turns_of.nd rfl (Or.inl rfl) (pe_lst (pa_cons (pe_ix ix_seq (pe_dget (hu_of hr) (pv 1) (pv 6) (fun _ _ => rfl)) pe_int (fun _ _ => rfl)) pa_nil)))
    (pss_cons (ps_while PassesOwn.never (pt_cmpR op_lt (pe_callB call_len_seq (by rfl) T.b_len (by decide +kernel) (pa_cons (pv 7) pa_nil)) (pe_callB call_len_seq (by rfl) T.b_len (by decide +kernel) (pa_cons (pe_dget (hu_of hr) (pv 1) (pv 6) (fun _ _ => rfl)) pa_nil)) (nomark _)) (pss_one (ps_expr (pe_bm PySem.F.plainAttrs_list PySem.F.slot_list_append PySem.F.type_list_append mt_append (pv 7) (pa_cons (pe_dget (hu_of hr) (pv 2) (pe_tup (pa_cons (pe_ix ix_seq (pv 7) (pe_un un_neg pe_int) (fun _ _ => rfl)) (pa_cons (pv 6) pa_nil))) (fun _ _ => rfl)) pa_nil)))))
    (pss_one (ps_dput (hu_of hr) (pv 5) (pv 6) (pv 7) rfl))))))
    (pss_one (ps_ret (pv 5)))))))
theorem ok_drawn_block (T : Txt K mg C) : FnOk P w K mg base CX0 4 T.drawn_block.f T.drawn_block.fd ["ties"] (sp_drawn_block K C) := by
  refine T.drawn_block.F.ok sc_drawn_block (fun vs H Q E h => ?_) (fun cdv A outer s H vs Q E hr h => ⟨t_drawn_block K C, ?_, pure_drawn_block h⟩)
  · obtain ⟨_, ss, _, _, _, ha, hR, _⟩ := h
    rw [SlA.length ha]
    unfold R_drawn_block at hR
    repeat (first | (obtain ⟨rfl, _⟩ := hR; rfl) | (obtain ⟨_, hR⟩ := hR))
  · exact (pss_cons (ps_if (pt_cmpR op_eq (pe_callB call_len_seq (by rfl) T.b_len (by decide +kernel) (pa_cons (pv 0) pa_nil)) pe_int (nomark _)) (pss_one (ps_ret (pe_disp (pps_cons (pe_ix ix_seq (pe_ix ix_seq (pv 0) pe_int (fun _ _ => rfl)) pe_int (fun _ _ => rfl)) (pe_lst (pa_cons (pe_ix ix_seq (pe_ix ix_seq (pv 0) pe_int (fun _ _ => rfl)) pe_int (fun _ _ => rfl)) pa_nil)) (pps_cons (pe_ix ix_seq (pe_ix ix_seq (pv 0) pe_int (fun _ _ => rfl)) pe_int (fun _ _ => rfl)) (pe_lst (pa_cons (pe_ix ix_seq (pe_ix ix_seq (pv 0) pe_int (fun _ _ => rfl)) pe_int (fun _ _ => rfl)) pa_nil)) pps_nil)) (by rfl) (by rfl) (fun z => by cases z) (by decide)))) pss_nil)
    (pss_cons (ps_set (i := 1) sc_drawn_block.nd rfl (Or.inl rfl) (pe_call (ok_fields_of T) (hr.mono (by decide)) rfl T.fields_of.m T.fields_of.F.kp T.fields_of.b .nil pass0 (pa_cons (pv 0) pa_nil)))
    (pss_cons (ps_if (pt_cmpR op_isN (pv 1) pe_non (nomark _)) (pss_one (ps_ret pe_non)) pss_nil)
    (pss_one (ps_ret (pe_call (ok_turns_of T) (hr.mono (by decide)) rfl T.turns_of.m T.turns_of.F.kp T.turns_of.b .nil pass0 (pa_cons (pv 1) (pa_cons (pe_call (ok_near_of T) (hr.mono (by decide)) rfl T.near_of.m T.near_of.F.kp T.near_of.b .nil pass0 (pa_cons (pv 0) pa_nil)) pa_nil))))))))
theorem ok_drawn (T : Txt K mg C) : FnOk P w K mg base CX0 6 T.drawn.f T.drawn.fd ["web"] (sp_drawn K C) := by
  refine T.drawn.F.ok sc_drawn (fun vs H Q E h => ?_) (fun cdv A outer s H vs Q E hr h => ⟨t_drawn K C, ?_, pure_drawn T.w h⟩)
  · obtain ⟨_, ss, _, _, ha, hR, _⟩ := h
    rw [SlA.length ha]
    unfold R_drawn at hR
    repeat (first | (obtain ⟨rfl, _⟩ := hR; rfl) | (obtain ⟨_, hR⟩ := hR))
  · exact (pss_cons (ps_setLc (i := 1) (own := [("point", 2)]) (g := (gName 2)) (tt := tYes) (te := (tLst tNil)) rfl sc_drawn.nd rfl rfl (sw_true rfl rfl rfl (by decide +kernel)) (pi_range1 (by rfl) T.b_range (pa_cons (pe_fld (pv 0) rfl) pa_nil)) (blkOk_by (N := N_drawn) (sc := defScope s_drawn) (by decide +kernel)) (fun _ _ _ _ _ => (pg_name (i := 2) sc_drawn.nd rfl (Or.inl rfl))) (fun _ _ _ _ _ => pts_nil) (fun _ _ _ _ _ => (pe_lst pa_nil)))
    (pss_cons (ps_for PassesOwn.never rfl (pi_list (pe_call (ok_blocks T) (hr.mono (by decide)) rfl T.blocks.m T.blocks.F.kp T.blocks.b .nil pass0 (pa_cons (pv 0) pa_nil))) (pg_name (i := 3) sc_drawn.nd rfl (Or.inl rfl)) (pss_cons (ps_set (i := 4) sc_drawn.nd rfl (Or.inl rfl) (pe_call (ok_drawn_block T) (hr.mono (by decide)) rfl T.drawn_block.m T.drawn_block.F.kp T.drawn_block.b .nil pass0 (pa_cons (pv 3) pa_nil)))
    (pss_cons (ps_if (pt_cmpR op_isN (pv 4) pe_non (nomark _)) (pss_one (ps_ret pe_non)) pss_nil)
    (pss_one (ps_lock (ps_for PassesOwn.never rfl (pi_keys (pv 4)) (pg_name (i := 2) sc_drawn.nd rfl (Or.inl rfl)) (pss_one (ps_asg (pe_op op_cat (pe_ix ix_seq (pv 1) (pv 2) (fun _ _ => rfl)) (pe_dget (hu_of hr) (pv 4) (pv 2) (fun _ _ => rfl))) (pg_sub (pv 1) (pv 2) set_list)))))))))
    (pss_one (ps_ret (pv 1)))))
theorem ok_l_cell_at (T : Txt K mg C) : FnOk P w K mg base CX0 1 T.l_cell_at.f T.l_cell_at.fd ["_law_script", "_law_k"] (sp_l_cell_at K C) := by
  refine T.l_cell_at.F.ok sc_l_cell_at (fun vs H Q E h => ?_) (fun cdv A outer s H vs Q E hr h => ⟨t_l_cell_at K C, ?_, pure_l_cell_at h⟩)
  · obtain ⟨_, ss, _, _, ha, hR, _⟩ := h
    rw [SlA.length ha]
    unfold R_cell at hR
    repeat (first | (obtain ⟨rfl, _⟩ := hR; rfl) | (obtain ⟨_, hR⟩ := hR))
  · exact (pss_cons (ps_if (pt_cmpR op_lt (pv 1) (pe_callB call_len_seq (by rfl) T.b_len (by decide +kernel) (pa_cons (pv 0) pa_nil)) (nomark _)) (pss_one (ps_ret (pe_ix ix_seq (pv 0) (pv 1) (fun _ _ => rfl)))) pss_nil)
    (pss_one (ps_ret pe_int)))
theorem ok_l_many (T : Txt K mg C) : FnOk P w K mg base CX0 2 T.l_many.f T.l_many.fd ["_law_script"] (sp_l_many K C) := by
  refine T.l_many.F.ok sc_l_many (fun vs H Q E h => ?_) (fun cdv A outer s H vs Q E hr h => ⟨t_l_many K C, ?_, pure_l_many h⟩)
  · obtain ⟨_, ss, _, _, ha, hR, _⟩ := h
    rw [SlA.length ha]
    unfold R_manyB at hR
    repeat (first | (obtain ⟨rfl, _⟩ := hR; rfl) | (obtain ⟨_, hR⟩ := hR))
  · exact (pss_cons (ps_if (pt_cmpR op_eq (pe_op op_mod (pe_call (ok_l_cell_at T) (hr.mono (by decide)) rfl T.l_cell_at.m T.l_cell_at.F.kp T.l_cell_at.b .nil pass0 (pa_cons (pv 0) (pa_cons pe_int pa_nil))) pe_int) pe_int (nomark _)) (pss_one (ps_ret (pe_op op_add pe_int (pe_op op_mod (pe_op op_fdiv (pe_call (ok_l_cell_at T) (hr.mono (by decide)) rfl T.l_cell_at.m T.l_cell_at.F.kp T.l_cell_at.b .nil pass0 (pa_cons (pv 0) (pa_cons pe_int pa_nil))) pe_int) pe_int)))) pss_nil)
    (pss_one (ps_ret (pe_op op_add pe_int (pe_op op_mod (pe_op op_fdiv (pe_call (ok_l_cell_at T) (hr.mono (by decide)) rfl T.l_cell_at.m T.l_cell_at.F.kp T.l_cell_at.b .nil pass0 (pa_cons (pv 0) (pa_cons pe_int pa_nil))) pe_int) pe_int)))))
theorem ok_l_ties (T : Txt K mg C) : FnOk P w K mg base CX0 2 T.l_ties.f T.l_ties.fd ["_law_script", "_law_many_here"] (sp_l_ties K C) := by
  refine T.l_ties.F.ok sc_l_ties (fun vs H Q E h => ?_) (fun cdv A outer s H vs Q E hr h => ⟨t_l_ties K C, ?_, pure_l_ties h⟩)
  · obtain ⟨_, ss, _, _, ha, hR, _⟩ := h
    rw [SlA.length ha]
    unfold R_tiesC at hR
    repeat (first | (obtain ⟨rfl, _⟩ := hR; rfl) | (obtain ⟨_, hR⟩ := hR))
  · exact (pss_cons (ps_set (i := 2) sc_l_ties.nd rfl (Or.inl rfl) (pe_lst pa_nil))
    (pss_cons (ps_set (i := 3) sc_l_ties.nd rfl (Or.inl rfl) (pe_op op_add (pe_op op_mod (pe_call (ok_l_cell_at T) (hr.mono (by decide)) rfl T.l_cell_at.m T.l_cell_at.F.kp T.l_cell_at.b .nil pass0 (pa_cons (pv 0) (pa_cons pe_int pa_nil))) pe_int) (pe_op op_mul pe_int (pe_callTy call_int1 (by rfl) T.b_int (by decide +kernel) (pa_cons (pe_cmpR op_eq (pe_op op_mod (pe_op op_fdiv (pe_call (ok_l_cell_at T) (hr.mono (by decide)) rfl T.l_cell_at.m T.l_cell_at.F.kp T.l_cell_at.b .nil pass0 (pa_cons (pv 0) (pa_cons pe_int pa_nil))) pe_int) pe_int) pe_int (nomark _)) pa_nil)))))
    (pss_cons (ps_for PassesOwn.never rfl (pi_list (pe_slice sl_list (pv 0) (po_some pe_int) (po_some (pe_op op_add pe_int (pv 3))))) (pg_name (i := 4) sc_l_ties.nd rfl (Or.inl rfl)) (pss_cons (ps_set (i := 5) sc_l_ties.nd rfl (Or.inl rfl) (pe_op op_mod (pv 4) (pv 1)))
    (pss_cons (ps_set (i := 6) sc_l_ties.nd rfl (Or.inl rfl) (pe_op op_mod (pe_op op_add (pe_op op_add (pv 5) pe_int) (pe_op op_mod (pe_op op_fdiv (pv 4) (pv 1)) (pe_callB (call_max2 rfl) (by rfl) T.b_max (by decide +kernel) (pa_cons pe_int (pa_cons (pe_op op_sub (pv 1) pe_int) pa_nil))))) (pv 1)))
    (pss_one (ps_if (PW.pt (pw_and (pt_cmpR op_ne (pv 5) (pv 6) (nomark _)) (pw_and (pt_cmpR (op_notInD (hr65 hr)) (pe_tup (pa_cons (pv 5) (pa_cons (pv 6) pa_nil))) (pv 2) (by rfl)) (pw_and1 (pt_cmpR (op_notInD (hr65 hr)) (pe_tup (pa_cons (pv 6) (pa_cons (pv 5) pa_nil))) (pv 2) (by rfl)))))) (pss_one (ps_expr (pe_bm PySem.F.plainAttrs_list PySem.F.slot_list_append PySem.F.type_list_append mt_append (pv 2) (pa_cons (pe_tup (pa_cons (pv 5) (pa_cons (pv 6) pa_nil))) pa_nil)))) pss_nil)))))
    (pss_one (ps_ret (pv 2))))))
theorem ok_l_order_by (T : Txt K mg C) : FnOk P w K mg base CX0 1 T.l_order_by.f T.l_order_by.fd ["_law_cell", "_law_row"] (sp_l_order_by K C) := by
  refine T.l_order_by.F.ok sc_l_order_by (fun vs H Q E h => ?_) (fun cdv A outer s H vs Q E hr h => ⟨t_l_order_by K C, ?_, pure_l_order_by h⟩)
  · obtain ⟨_, ss, _, _, ha, hR, _⟩ := h
    rw [SlA.length ha]
    unfold R_order at hR
    repeat (first | (obtain ⟨rfl, _⟩ := hR; rfl) | (obtain ⟨_, hR⟩ := hR))
  · exact (pss_cons (ps_set (i := 2) sc_l_order_by.nd rfl (Or.inl rfl) (pe_callTy call_list_of (by rfl) T.b_list (by decide +kernel) (pa_cons (pv 1) pa_nil)))
    (pss_cons (ps_set (i := 3) sc_l_order_by.nd rfl (Or.inl rfl) (pe_lst pa_nil))
    (pss_cons (ps_while PassesOwn.never (pt_cmpR (op_neD hr.units) (pv 2) (pe_lst pa_nil) (nomark _)) (pss_cons (ps_expr (pe_bm PySem.F.plainAttrs_list PySem.F.slot_list_append PySem.F.type_list_append mt_append (pv 3) (pa_cons (pe_bm PySem.F.plainAttrs_list PySem.F.slot_list_pop PySem.F.type_list_pop mt_popAt (pv 2) (pa_cons (pe_op op_mod (pv 0) (pe_callB call_len_seq (by rfl) T.b_len (by decide +kernel) (pa_cons (pv 2) pa_nil))) pa_nil)) pa_nil)))
    (pss_one (ps_set (i := 0) sc_l_order_by.nd rfl (Or.inl rfl) (pe_op op_fdiv (pv 0) (pe_op op_add (pe_callB call_len_seq (by rfl) T.b_len (by decide +kernel) (pa_cons (pv 2) pa_nil)) pe_int))))))
    (pss_one (ps_ret (pv 3))))))
theorem ok_l_turns_by (T : Txt K mg C) : FnOk P w K mg base CX0 2 T.l_turns_by.f T.l_turns_by.fd ["_law_script", "_law_many_here", "_law_ties_here"] (sp_l_turns_by K C) := by
  refine T.l_turns_by.F.ok sc_l_turns_by (fun vs H Q E h => ?_) (fun cdv A outer s H vs Q E hr h => ⟨t_l_turns_by K C, ?_, pure_l_turns_by h⟩)
  · obtain ⟨_, ss, _, _, ha, hR, _⟩ := h
    rw [SlA.length ha]
    unfold R_turnsBy at hR
    repeat (first | (obtain ⟨rfl, _⟩ := hR; rfl) | (obtain ⟨_, hR⟩ := hR))
  · exact (pss_cons (ps_set (i := 3) sc_l_turns_by.nd rfl (Or.inl rfl) (pe_lst pa_nil))
    (pss_cons (ps_for PassesOwn.never rfl (pi_range1 (by rfl) T.b_range (pa_cons (pv 1) pa_nil)) (pg_name (i := 4) sc_l_turns_by.nd rfl (Or.inr rfl)) (pss_cons (ps_setLc (i := 5) (own := [("_law_tie", 6)]) (g := (gName 6)) (tt := (tTest (tOp (rIn K false) (tVar 4) (tVar 6)))) (te := (tOp (rI0 fun i j => .int (i - j)) (tOp (rI0 fun i j => .int (i + j)) (tOp (rIx K) (tVar 6) (tC (.int 0))) (tOp (rIx K) (tVar 6) (tC (.int 1)))) (tVar 4))) rfl sc_l_turns_by.nd rfl rfl (sw_true rfl rfl rfl (by decide +kernel)) (pi_list (pv 2)) (blkOk_by (N := N_l_turns_by) (sc := defScope s_l_turns_by) (by decide +kernel)) (fun _ _ _ _ _ => (pg_name (i := 6) sc_l_turns_by.nd rfl (Or.inl rfl))) (fun _ _ _ _ _ => (pts_one (pt_cmpR op_in_seq (pv 4) (pv 6) (by rfl)))) (fun _ _ _ _ _ => (pe_op op_sub (pe_op op_add (pe_ix ix_seq (pv 6) pe_int (fun _ _ => rfl)) (pe_ix ix_seq (pv 6) pe_int (fun _ _ => rfl))) (pv 4))))
    (pss_one (ps_expr (pe_bm PySem.F.plainAttrs_list PySem.F.slot_list_append PySem.F.type_list_append mt_append (pv 3) (pa_cons (pe_call (ok_l_order_by T) (hr.mono (by decide)) rfl T.l_order_by.m T.l_order_by.F.kp T.l_order_by.b .nil pass0 (pa_cons (pe_op op_add (pe_op op_fdiv (pe_call (ok_l_cell_at T) (hr.mono (by decide)) rfl T.l_cell_at.m T.l_cell_at.F.kp T.l_cell_at.b .nil pass0 (pa_cons (pv 0) (pa_cons pe_int pa_nil))) (pe_op op_add pe_int (pe_op op_mul pe_int (pv 4)))) (pe_op op_mul pe_int (pv 4))) (pa_cons (pe_callB cr_sortedI (by rfl) T.b_sorted (by decide +kernel) (pa_cons (pv 5) pa_nil)) pa_nil))) pa_nil))))))
    (pss_one (ps_ret (pv 3)))))
theorem ok_l_labels (T : Txt K mg C) : FnOk P w K mg base CX0 1 T.l_labels.f T.l_labels.fd ["_law_ties_here", "_law_many_here"] (sp_l_labels K C) := by
  refine T.l_labels.F.ok sc_l_labels (fun vs H Q E h => ?_) (fun cdv A outer s H vs Q E hr h => ⟨t_l_labels K C, ?_, pure_l_labels h⟩)
  · obtain ⟨_, ss, _, _, ha, hR, _⟩ := h
    rw [SlA.length ha]
    unfold R_labels at hR
    repeat (first | (obtain ⟨rfl, _⟩ := hR; rfl) | (obtain ⟨_, hR⟩ := hR))
  · exact (pss_cons (ps_set (i := 2) sc_l_labels.nd rfl (Or.inl rfl) (pe_listRg rfl (by rfl) T.b_list (prg_1 (by rfl) T.b_range (pv 1))))
    (pss_cons (ps_for PassesOwn.never rfl (pi_list (pv 0)) (pg_name (i := 3) sc_l_labels.nd rfl (Or.inl rfl)) (pss_cons (ps_set (i := 4) sc_l_labels.nd rfl (Or.inr rfl) (pe_callB (call_min2 rfl) (by rfl) T.b_min (by decide +kernel) (pa_cons (pe_ix ix_seq (pv 2) (pe_ix ix_seq (pv 3) pe_int (fun _ _ => rfl)) (fun _ _ => rfl)) (pa_cons (pe_ix ix_seq (pv 2) (pe_ix ix_seq (pv 3) pe_int (fun _ _ => rfl)) (fun _ _ => rfl)) pa_nil))))
    (pss_cons (ps_set (i := 5) sc_l_labels.nd rfl (Or.inr rfl) (pe_callB (call_max2 rfl) (by rfl) T.b_max (by decide +kernel) (pa_cons (pe_ix ix_seq (pv 2) (pe_ix ix_seq (pv 3) pe_int (fun _ _ => rfl)) (fun _ _ => rfl)) (pa_cons (pe_ix ix_seq (pv 2) (pe_ix ix_seq (pv 3) pe_int (fun _ _ => rfl)) (fun _ _ => rfl)) pa_nil))))
    (pss_one (ps_setLc (i := 2) (own := [("_law_label", 6)]) (g := (gName 6)) (tt := tYes) (te := (tIf (tTest (tOp rEq (tVar 6) (tVar 5))) (tVar 4) (tVar 6))) rfl sc_l_labels.nd rfl rfl (sw_true rfl rfl rfl (by decide +kernel)) (pi_list (pv 2)) (blkOk_by (N := N_l_labels) (sc := defScope s_l_labels) (by decide +kernel)) (fun _ _ _ _ _ => (pg_name (i := 6) sc_l_labels.nd rfl (Or.inl rfl))) (fun _ _ _ _ _ => pts_nil) (fun _ _ _ _ _ => (pe_ifExp (pt_cmpR op_eq (pv 6) (pv 5) (nomark _)) (pv 4) (pv 6))))))))
    (pss_one (ps_ret (pv 2)))))
theorem ok_l_firsts (T : Txt K mg C) : FnOk P w K mg base CX0 1 T.l_firsts.f T.l_firsts.fd ["_law_turns", "_law_ties_here"] (sp_l_firsts K C) := by
  refine T.l_firsts.F.ok sc_l_firsts (fun vs H Q E h => ?_) (fun cdv A outer s H vs Q E hr h => ⟨t_l_firsts K C, ?_, pure_l_firsts h⟩)
  · obtain ⟨_, ss, _, _, ha, hR, _⟩ := h
    rw [SlA.length ha]
    unfold R_firsts at hR
    repeat (first | (obtain ⟨rfl, _⟩ := hR; rfl) | (obtain ⟨_, hR⟩ := hR))
  · exact (pss_cons (ps_set (i := 2) sc_l_firsts.nd rfl (Or.inl rfl) pe_dnewT)
    (pss_cons (ps_for PassesOwn.never rfl (pi_list (pv 1)) (pg_name (i := 3) sc_l_firsts.nd rfl (Or.inl rfl)) (pss_cons (ps_dput (hu_of hr) (pv 2) (pv 3) pe_bl rfl)
    (pss_one (ps_dput (hu_of hr) (pv 2) (pe_tup (pa_cons (pe_ix ix_seq (pv 3) pe_int (fun _ _ => rfl)) (pa_cons (pe_ix ix_seq (pv 3) pe_int (fun _ _ => rfl)) pa_nil))) pe_bl rfl))))
    (pss_cons (ps_set (i := 4) sc_l_firsts.nd rfl (Or.inl rfl) (pe_lst pa_nil))
    (pss_cons (ps_for PassesOwn.never rfl (pi_list (pe_callB (FY.cr_sortedT2 rfl (Nat.lt_of_succ_lt (FX.hr65 hr))) (by rfl) T.b_sorted (by decide +kernel) (pa_cons (pv 2) pa_nil))) (pg_name (i := 5) sc_l_firsts.nd rfl (Or.inl rfl)) (Evl.pss_cut (ps_if (pt_cmp (pc_din (hu_of hr) (pv 5) (pv 2))) (pss_one (ps_expr (pe_bm PySem.F.plainAttrs_list PySem.F.slot_list_append PySem.F.type_list_append mt_append (pv 4) (pa_cons (pv 5) pa_nil)))) pss_nil)
    (pss_one (ps_while PassesOwn.never (pt_cmp (pc_din (hu_of hr) (pv 5) (pv 2))) (pss_cons (ps_expr (pe_bm PySem.F.plainAttrs_dict PySem.F.slot_dict_pop PySem.F.type_dict_pop (FJ.mt_popT1 (hu_of hr)) (pv 2) (pa_cons (pv 5) pa_nil)))
    (pss_cons (ps_set (i := 6) sc_l_firsts.nd rfl (Or.inl rfl) (pe_ix ix_seq (pv 0) (pe_ix ix_seq (pv 5) pe_int (fun _ _ => rfl)) (fun _ _ => rfl)))
    (pss_one (ps_set (i := 5) sc_l_firsts.nd rfl (Or.inl rfl) (pe_tup (pa_cons (pe_ix ix_seq (pv 5) pe_int (fun _ _ => rfl)) (pa_cons (pe_ix ix_seq (pv 6) (pe_op op_mod (pe_op op_add (pe_bm PySem.F.plainAttrs_list PySem.F.slot_list_index PySem.F.type_list_index mt_index (pv 6) (pa_cons (pe_ix ix_seq (pv 5) pe_int (fun _ _ => rfl)) pa_nil)) pe_int) (pe_callB call_len_seq (by rfl) T.b_len (by decide +kernel) (pa_cons (pv 6) pa_nil))) (fun _ _ => rfl)) pa_nil)))))))))))
    (pss_one (ps_ret (pv 4)))))))
theorem ok_l_is_flat (T : Txt K mg C) : FnOk P w K mg base CX0 2 T.l_is_flat.f T.l_is_flat.fd ["_law_turns", "_law_ties_here", "_law_many_here"] (sp_l_is_flat K C) := by
  refine T.l_is_flat.F.ok sc_l_is_flat (fun vs H Q E h => ?_) (fun cdv A outer s H vs Q E hr h => ⟨t_l_is_flat K C, ?_, pure_l_is_flat h⟩)
  · obtain ⟨_, ss, _, _, ha, hR, _⟩ := h
    rw [SlA.length ha]
    unfold R_is_flat at hR
    repeat (first | (obtain ⟨rfl, _⟩ := hR; rfl) | (obtain ⟨_, hR⟩ := hR))
  · exact (pss_cons (ps_set (i := 3) sc_l_is_flat.nd rfl (Or.inr rfl) (pe_call (ok_l_labels T) (hr.mono (by decide)) rfl T.l_labels.m T.l_labels.F.kp T.l_labels.b .nil pass0 (pa_cons (pv 1) (pa_cons (pv 2) pa_nil))))
    (pss_cons (ps_set (i := 4) sc_l_is_flat.nd rfl (Or.inl rfl) (pe_call (ok_l_firsts T) (hr.mono (by decide)) rfl T.l_firsts.m T.l_firsts.F.kp T.l_firsts.b .nil pass0 (pa_cons (pv 0) (pa_cons (pv 1) pa_nil))))
    (pss_cons (ps_for PassesOwn.never rfl (pi_range1 (by rfl) T.b_range (pa_cons (pv 2) pa_nil)) (pg_name (i := 5) sc_l_is_flat.nd rfl (Or.inr rfl)) (pss_cons (ps_set (i := 6) sc_l_is_flat.nd rfl (Or.inl rfl) (pe_callB call_len_seq (by rfl) T.b_len (by decide +kernel) (pa_cons (pe_lc (own := [("_law_tie", 10)]) (g := (gName 10)) (tt := (tTest (tOp rEq (tOp (rIx K) (tVar 3) (tOp (rIx K) (tVar 10) (tC (.int 0)))) (tVar 5)))) (te := (tVar 10)) rfl sc_l_is_flat.nd (pi_list (pv 1)) (blkOk_by (N := N_l_is_flat) (sc := defScope s_l_is_flat) (by decide +kernel)) (fun _ _ _ _ _ => (pg_name (i := 10) sc_l_is_flat.nd rfl (Or.inl rfl))) (fun _ _ _ _ _ => (pts_one (pt_cmpR op_eq (pe_ix ix_seq (pv 3) (pe_ix ix_seq (pv 10) pe_int (fun _ _ => rfl)) (fun _ _ => rfl)) (pv 5) (nomark _)))) (fun _ _ _ _ _ => (pv 10))) pa_nil)))
    (pss_cons (ps_set (i := 7) sc_l_is_flat.nd rfl (Or.inl rfl) (pe_bm PySem.F.plainAttrs_list PySem.F.slot_list_count PySem.F.type_list_count mt_lcount (pv 3) (pa_cons (pv 5) pa_nil)))
    (pss_cons (ps_setLc (i := 8) (own := [("_law_step", 9)]) (g := (gName 9)) (tt := (tTest (tOp rEq (tOp (rIx K) (tVar 3) (tOp (rIx K) (tVar 9) (tC (.int 0)))) (tVar 5)))) (te := (tVar 9)) rfl sc_l_is_flat.nd rfl rfl (sw_true rfl rfl rfl (by decide +kernel)) (pi_list (pv 4)) (blkOk_by (N := N_l_is_flat) (sc := defScope s_l_is_flat) (by decide +kernel)) (fun _ _ _ _ _ => (pg_name (i := 9) sc_l_is_flat.nd rfl (Or.inl rfl))) (fun _ _ _ _ _ => (pts_one (pt_cmpR op_eq (pe_ix ix_seq (pv 3) (pe_ix ix_seq (pv 9) pe_int (fun _ _ => rfl)) (fun _ _ => rfl)) (pv 5) (nomark _)))) (fun _ _ _ _ _ => (pv 9)))
    (pss_one (ps_if (PW.pt (pw_and (pt_cmpR op_gt (pv 6) pe_int (nomark _)) (pw_and1 (pt_cmpR op_ne (pe_callB call_len_seq (by rfl) T.b_len (by decide +kernel) (pa_cons (pv 8) pa_nil)) (pe_op op_add (pe_op op_sub (pv 6) (pv 7)) pe_int) (nomark _))))) (pss_one (ps_ret pe_bl)) pss_nil))))))
    (pss_one (ps_ret pe_bl)))))
theorem ok_l_shaken (T : Txt K mg C) : FnOk P w K mg base CX0 1 T.l_shaken.f T.l_shaken.fd ["_law_turns", "_law_cell"] (sp_l_shaken K C) := by
  refine T.l_shaken.F.ok sc_l_shaken (fun vs H Q E h => ?_) (fun cdv A outer s H vs Q E hr h => ⟨t_l_shaken K C, ?_, pure_l_shaken h⟩)
  · obtain ⟨_, ss, _, _, ha, hR, _⟩ := h
    rw [SlA.length ha]
    unfold R_shaken at hR
    repeat (first | (obtain ⟨rfl, _⟩ := hR; rfl) | (obtain ⟨_, hR⟩ := hR))
  · exact (pss_cons (ps_setLc (i := 2) (own := [("_law_turn", 3)]) (g := (gName 3)) (tt := tYes) (te := (tCB (xListOf K) (tCons (tVar 3) tNil))) rfl sc_l_shaken.nd rfl rfl (sw_true rfl rfl rfl (by decide +kernel)) (pi_list (pv 0)) (blkOk_by (N := N_l_shaken) (sc := defScope s_l_shaken) (by decide +kernel)) (fun _ _ _ _ _ => (pg_name (i := 3) sc_l_shaken.nd rfl (Or.inl rfl))) (fun _ _ _ _ _ => pts_nil) (fun _ _ _ _ _ => (pe_callTy call_list_of (by rfl) T.b_list (by decide +kernel) (pa_cons (pv 3) pa_nil))))
    (pss_cons (ps_set (i := 3) sc_l_shaken.nd rfl (Or.inl rfl) (pe_ix ix_seq (pv 2) (pe_op op_mod (pv 1) (pe_callB call_len_seq (by rfl) T.b_len (by decide +kernel) (pa_cons (pv 2) pa_nil))) (fun _ _ => rfl)))
    (Evl.pss_cut (ps_if (pt_cmpR op_gt (pe_callB call_len_seq (by rfl) T.b_len (by decide +kernel) (pa_cons (pv 3) pa_nil)) pe_int (nomark _)) (pss_cons (ps_set (i := 4) sc_l_shaken.nd rfl (Or.inl rfl) (pe_op op_mod (pe_op op_fdiv (pv 1) pe_int) (pe_op op_sub (pe_callB call_len_seq (by rfl) T.b_len (by decide +kernel) (pa_cons (pv 3) pa_nil)) pe_int)))
    (pss_one (ps_asg (pe_op op_cat (pe_op op_cat (pe_slice sl_list (pv 3) po_none (po_some (pv 4))) (pe_lst (pa_cons (pe_ix ix_seq (pv 3) (pe_op op_add (pv 4) pe_int) (fun _ _ => rfl)) (pa_cons (pe_ix ix_seq (pv 3) (pv 4) (fun _ _ => rfl)) pa_nil)))) (pe_slice sl_list (pv 3) (po_some (pe_op op_add (pv 4) pe_int)) po_none)) (pg_sub (pv 2) (pe_op op_mod (pv 1) (pe_callB call_len_seq (by rfl) T.b_len (by decide +kernel) (pa_cons (pv 2) pa_nil))) set_list)))) pss_nil)
    (pss_one (ps_ret (pv 2))))))
theorem ok_l_stays (T : Txt K mg C) : FnOk P w K mg base CX0 5 T.l_stays.f T.l_stays.fd ["_law_web", "_law_ties_here", "_law_many_here"] (sp_l_stays K C) := by
  refine T.l_stays.F.ok sc_l_stays (fun vs H Q E h => ?_) (fun cdv A outer s H vs Q E hr h => ⟨t_l_stays K C, ?_, pure_l_stays T.w h⟩)
  · obtain ⟨_, ss, _, _, ha, hR, _⟩ := h
    rw [SlA.length ha]
    unfold R_stays at hR
    repeat (first | (obtain ⟨rfl, _⟩ := hR; rfl) | (obtain ⟨_, hR⟩ := hR))
  · exact (pss_cons (ps_if (pt_cmpR (op_neD hr.units) (pe_meth0 (pv 0) T.cl T.Web_ties.M (ok_Web_ties T) (hr.mono (by decide)) T.Web_ties.b .nil pass0) (pe_callB cr_sortedPO (by rfl) T.b_sorted (by decide +kernel) (pa_cons (pe_lc (own := [("_law_tie", 3)]) (g := (gName 3)) (tt := tYes) (te := (tTup (tCons (tCB (rMinT2 K) (tCons (tVar 3) tNil)) (tCons (tCB (rMaxT2 K) (tCons (tVar 3) tNil)) tNil)))) rfl sc_l_stays.nd (pi_list (pv 1)) (blkOk_by (N := N_l_stays) (sc := defScope s_l_stays) (by decide +kernel)) (fun _ _ _ _ _ => (pg_name (i := 3) sc_l_stays.nd rfl (Or.inl rfl))) (fun _ _ _ _ _ => pts_nil) (fun _ _ _ _ _ => (pe_tup (pa_cons (pe_callB (call_minT2 rfl hr.units) (by rfl) T.b_min (by decide +kernel) (pa_cons (pv 3) pa_nil)) (pa_cons (pe_callB (call_maxT2 rfl hr.units) (by rfl) T.b_max (by decide +kernel) (pa_cons (pv 3) pa_nil)) pa_nil))))) pa_nil)) (nomark _)) (pss_one (ps_ret pe_bl)) pss_nil)
    (pss_cons (ps_for PassesOwn.never rfl (pi_range1 (by rfl) T.b_range (pa_cons (pv 2) pa_nil)) (pg_name (i := 4) sc_l_stays.nd rfl (Or.inr rfl)) (pss_one (ps_if (pt_cmpR (op_neD hr.units) (pe_meth (pv 0) T.cl T.Web_beside.M (ok_Web_beside T) (hr.mono (by decide)) T.Web_beside.b .nil pass0 (pa_cons (pv 4) pa_nil)) (pe_callB cr_sortedI (by rfl) T.b_sorted (by decide +kernel) (pa_cons (pe_lc (own := [("_law_tie", 3)]) (g := (gName 3)) (tt := (tTest (tOp (rIn K false) (tVar 4) (tVar 3)))) (te := (tOp (rI0 fun i j => .int (i - j)) (tOp (rI0 fun i j => .int (i + j)) (tOp (rIx K) (tVar 3) (tC (.int 0))) (tOp (rIx K) (tVar 3) (tC (.int 1)))) (tVar 4))) rfl sc_l_stays.nd (pi_list (pv 1)) (blkOk_by (N := N_l_stays) (sc := defScope s_l_stays) (by decide +kernel)) (fun _ _ _ _ _ => (pg_name (i := 3) sc_l_stays.nd rfl (Or.inl rfl))) (fun _ _ _ _ _ => (pts_one (pt_cmpR op_in_seq (pv 4) (pv 3) (by rfl)))) (fun _ _ _ _ _ => (pe_op op_sub (pe_op op_add (pe_ix ix_seq (pv 3) pe_int (fun _ _ => rfl)) (pe_ix ix_seq (pv 3) pe_int (fun _ _ => rfl))) (pv 4)))) pa_nil)) (nomark _)) (pss_one (ps_ret pe_bl)) pss_nil)))
    (pss_one (ps_ret pe_bl))))
theorem ok_law {f : Addr} {fd : FuncData} (F : Fun K "law" "law" s_law f fd) (T : Txt K mg C) : FnOk P w K mg base CX0 7 f fd ["_law_script"] (sp_law K C) := by
  refine F.ok sc_law (fun vs H Q E h => ?_) (fun cdv A outer s H vs Q E hr h => ⟨t_law K C, ?_, pure_law T.w h⟩)
  · obtain ⟨_, _, rfl, _⟩ := h; rfl
  · exact (pss_cons (ps_set (i := 1) sc_law.nd rfl (Or.inl rfl) (pe_call (ok_l_many T) (hr.mono (by decide)) rfl T.l_many.m T.l_many.F.kp T.l_many.b .nil pass0 (pa_cons (pv 0) pa_nil)))
    (pss_cons (ps_set (i := 2) sc_law.nd rfl (Or.inl rfl) (pe_call (ok_l_ties T) (hr.mono (by decide)) rfl T.l_ties.m T.l_ties.F.kp T.l_ties.b .nil pass0 (pa_cons (pv 0) (pa_cons (pv 1) pa_nil))))
    (pss_cons (ps_set (i := 3) sc_law.nd rfl (Or.inl rfl) (pe_call (ok_l_turns_by T) (hr.mono (by decide)) rfl T.l_turns_by.m T.l_turns_by.F.kp T.l_turns_by.b .nil pass0 (pa_cons (pv 0) (pa_cons (pv 1) (pa_cons (pv 2) pa_nil)))))
    (pss_cons (ps_set (i := 4) sc_law.nd rfl (Or.inl rfl) (pe_make T.M (ok_Web_init T) (hr.mono (by decide)) rfl T.g_Web T.Web_init.b .nil pass0 (pa_cons (pv 1) (pa_cons (pe_callTy call_list_of (by rfl) T.b_list (by decide +kernel) (pa_cons (pv 2) pa_nil)) pa_nil))))
    (pss_cons (ps_set (i := 5) sc_law.nd rfl (Or.inl rfl) (pe_call (ok_l_cell_at T) (hr.mono (by decide)) rfl T.l_cell_at.m T.l_cell_at.F.kp T.l_cell_at.b .nil pass0 (pa_cons (pv 0) (pa_cons pe_int pa_nil))))
    (Evl.pss_cut (ps_if (pt_cmpR op_eq (pe_op op_mod (pv 5) pe_int) pe_int (nomark _)) (pss_cons (ps_set (i := 6) sc_law.nd rfl (Or.inl rfl) (pe_call (ok_drawn T) (hr.mono (by decide)) rfl T.drawn.m T.drawn.F.kp T.drawn.b .nil pass0 (pa_cons (pv 4) pa_nil)))
    (pss_one (ps_if (pt_cmpR op_notN (pv 6) pe_non (nomark _)) (pss_cons (ps_setLc (i := 3) (own := [("_law_turn", 7)]) (g := (gName 7)) (tt := tYes) (te := (tCB (xListOf K) (tCons (tVar 7) tNil))) rfl sc_law.nd rfl rfl (sw_true rfl rfl rfl (by decide +kernel)) (pi_list (pv 6)) (blkOk_by (N := N_law) (sc := defScope s_law) (by decide +kernel)) (fun _ _ _ _ _ => (pg_name (i := 7) sc_law.nd rfl (Or.inl rfl))) (fun _ _ _ _ _ => pts_nil) (fun _ _ _ _ _ => (pe_callTy call_list_of (by rfl) T.b_list (by decide +kernel) (pa_cons (pv 7) pa_nil))))
    (pss_one (ps_if (pt_cmpR op_eq (pe_op op_mod (pe_op op_fdiv (pv 5) pe_int) pe_int) pe_int (nomark _)) (pss_one (ps_set (i := 3) sc_law.nd rfl (Or.inl rfl) (pe_call (ok_l_shaken T) (hr.mono (by decide)) rfl T.l_shaken.m T.l_shaken.F.kp T.l_shaken.b .nil pass0 (pa_cons (pv 3) (pa_cons (pe_op op_fdiv (pv 5) pe_int) pa_nil))))) pss_nil))) pss_nil))) pss_nil)
    (pss_cons (ps_set (i := 8) sc_law.nd rfl (Or.inl rfl) (pe_call (ok_l_turns_by T) (hr.mono (by decide)) rfl T.l_turns_by.m T.l_turns_by.F.kp T.l_turns_by.b .nil pass0 (pa_cons (pv 0) (pa_cons (pv 1) (pa_cons (pv 2) pa_nil)))))
    (pss_cons (ps_if (pt_cmpR op_ne (pe_call (ok_flat T) (hr.mono (by decide)) rfl T.flat.m T.flat.F.kp T.flat.b .nil pass0 (pa_cons (pv 4) (pa_cons (pe_lc (own := [("_law_turn", 7)]) (g := (gName 7)) (tt := tYes) (te := (tCB (xListOf K) (tCons (tVar 7) tNil))) rfl sc_law.nd (pi_list (pv 8)) (blkOk_by (N := N_law) (sc := defScope s_law) (by decide +kernel)) (fun _ _ _ _ _ => (pg_name (i := 7) sc_law.nd rfl (Or.inl rfl))) (fun _ _ _ _ _ => pts_nil) (fun _ _ _ _ _ => (pe_callTy call_list_of (by rfl) T.b_list (by decide +kernel) (pa_cons (pv 7) pa_nil)))) pa_nil))) (pe_call (ok_l_is_flat T) (hr.mono (by decide)) rfl T.l_is_flat.m T.l_is_flat.F.kp T.l_is_flat.b .nil pass0 (pa_cons (pv 8) (pa_cons (pv 2) (pa_cons (pv 1) pa_nil)))) (nomark _)) (pss_one (ps_ret pe_bl)) pss_nil)
    (pss_cons (ps_setLc (i := 9) (own := [("_law_turn", 7)]) (g := (gName 7)) (tt := tYes) (te := (tCB (xListOf K) (tCons (tVar 7) tNil))) rfl sc_law.nd rfl rfl (sw_true rfl rfl rfl (by decide +kernel)) (pi_list (pv 3)) (blkOk_by (N := N_law) (sc := defScope s_law) (by decide +kernel)) (fun _ _ _ _ _ => (pg_name (i := 7) sc_law.nd rfl (Or.inl rfl))) (fun _ _ _ _ _ => pts_nil) (fun _ _ _ _ _ => (pe_callTy call_list_of (by rfl) T.b_list (by decide +kernel) (pa_cons (pv 7) pa_nil))))
    (pss_cons (ps_set (i := 10) sc_law.nd rfl (Or.inl rfl) (pe_call (ok_flat T) (hr.mono (by decide)) rfl T.flat.m T.flat.F.kp T.flat.b .nil pass0 (pa_cons (pv 4) (pa_cons (pv 9) pa_nil))))
    (pss_cons (ps_if (PW.pt (pw_or (pt_not (pt_val (pe_callB call_isi (by rfl) T.b_isinstance (by decide +kernel) (pa_cons (pv 10) (pa_cons (pe_bltn (v := .ty "bool") (by rfl) T.b_bool (by decide +kernel) rfl) pa_nil))))) (pw_or (pt_cmpR op_ne (pv 10) (pe_call (ok_l_is_flat T) (hr.mono (by decide)) rfl T.l_is_flat.m T.l_is_flat.F.kp T.l_is_flat.b .nil pass0 (pa_cons (pv 3) (pa_cons (pv 2) (pa_cons (pv 1) pa_nil)))) (nomark _)) (pw_or1 (pt_cmpR (op_neD hr.units) (pv 9) (pv 3) (nomark _)))))) (pss_one (ps_ret pe_bl)) pss_nil)
    (pss_one (ps_ret (pe_call (ok_l_stays T) (hr.mono (by decide)) rfl T.l_stays.m T.l_stays.F.kp T.l_stays.b .nil pass0 (pa_cons (pv 4) (pa_cons (pv 2) (pa_cons (pv 1) pa_nil)))))))))))))))))
end
theorem all_mk {l : PySem.W.OpenLaw} {w : World} {K : PySem.W.Frag} {h : Heap} {mg : Str → Option Value} {fa C : Addr} (X : K.In h) (G : h.Ns mainGlobals mg) (hfa : mg "law" = some (.ref fa))
    (aC : PySem.W.nsIn K mainGlobals "Web" = some (some (.ref C)))
    (pg : PySem.W.plainGet K C Str.empty = true) (hd : PySem.W.hasDictIn K C = true) (po : PySem.W.plainOver K C = true) (sa : PySem.W.findIn K (.ref C) "__setattr__" = some (some (.builtin "object.__setattr__"))) (mk : PySem.W.makesIn K C = true) (kc : PySem.W.keepIn K (.ref C) = true)
    (nM : PySem.W.findIn K (.ref C) "many" = some none) (nN : PySem.W.findIn K (.ref C) "near" = some none)
    {f_is_whole : Addr} {oc_is_whole kV_is_whole dc_is_whole pm_is_whole cd_is_whole ct_is_whole : Value} {od_is_whole an_is_whole : Option Addr} {sl_is_whole : Array (Option Value)}
    (a_is_whole : PySem.W.nsIn K mainGlobals "is_whole" = some (some (.ref f_is_whole)))
    (l_is_whole : K.lookup f_is_whole = some ⟨oc_is_whole, od_is_whole, .func (PySem.W.fnOf "is_whole" "is_whole" (defArgs s_is_whole) (defBody s_is_whole) (defScope s_is_whole) .none kV_is_whole dc_is_whole pm_is_whole an_is_whole cd_is_whole ct_is_whole), sl_is_whole⟩) (c_is_whole : PySem.W.codeIn K cd_is_whole "is_whole" = true) (k_is_whole : PySem.W.keepIn K (.ref f_is_whole) = true)
    {f_come_to : Addr} {oc_come_to kV_come_to dc_come_to pm_come_to cd_come_to ct_come_to : Value} {od_come_to an_come_to : Option Addr} {sl_come_to : Array (Option Value)}
    (a_come_to : PySem.W.nsIn K mainGlobals "come_to" = some (some (.ref f_come_to)))
    (l_come_to : K.lookup f_come_to = some ⟨oc_come_to, od_come_to, .func (PySem.W.fnOf "come_to" "come_to" (defArgs s_come_to) (defBody s_come_to) (defScope s_come_to) .none kV_come_to dc_come_to pm_come_to an_come_to cd_come_to ct_come_to), sl_come_to⟩) (c_come_to : PySem.W.codeIn K cd_come_to "come_to" = true) (k_come_to : PySem.W.keepIn K (.ref f_come_to) = true)
    {f_Web_init : Addr} {oc_Web_init kV_Web_init dc_Web_init pm_Web_init cd_Web_init ct_Web_init : Value} {od_Web_init an_Web_init : Option Addr} {sl_Web_init : Array (Option Value)}
    (a_Web_init : PySem.W.findIn K (.ref C) "__init__" = some (some (.ref f_Web_init))) (i_Web_init : PySem.W.isFn K (.ref f_Web_init) = true)
    (l_Web_init : K.lookup f_Web_init = some ⟨oc_Web_init, od_Web_init, .func (PySem.W.fnOf "__init__" "Web.__init__" (defArgs s_Web_init) (defBody s_Web_init) (defScope s_Web_init) .none kV_Web_init dc_Web_init pm_Web_init an_Web_init cd_Web_init ct_Web_init), sl_Web_init⟩) (c_Web_init : PySem.W.codeIn K cd_Web_init "Web.__init__" = true) (k_Web_init : PySem.W.keepIn K (.ref f_Web_init) = true)
    {f_Web_has : Addr} {oc_Web_has kV_Web_has dc_Web_has pm_Web_has cd_Web_has ct_Web_has : Value} {od_Web_has an_Web_has : Option Addr} {sl_Web_has : Array (Option Value)}
    (a_Web_has : PySem.W.findIn K (.ref C) "has" = some (some (.ref f_Web_has))) (i_Web_has : PySem.W.isFn K (.ref f_Web_has) = true)
    (l_Web_has : K.lookup f_Web_has = some ⟨oc_Web_has, od_Web_has, .func (PySem.W.fnOf "has" "Web.has" (defArgs s_Web_has) (defBody s_Web_has) (defScope s_Web_has) .none kV_Web_has dc_Web_has pm_Web_has an_Web_has cd_Web_has ct_Web_has), sl_Web_has⟩) (c_Web_has : PySem.W.codeIn K cd_Web_has "Web.has" = true) (k_Web_has : PySem.W.keepIn K (.ref f_Web_has) = true)
    {f_Web_need : Addr} {oc_Web_need kV_Web_need dc_Web_need pm_Web_need cd_Web_need ct_Web_need : Value} {od_Web_need an_Web_need : Option Addr} {sl_Web_need : Array (Option Value)}
    (a_Web_need : PySem.W.findIn K (.ref C) "need" = some (some (.ref f_Web_need))) (i_Web_need : PySem.W.isFn K (.ref f_Web_need) = true)
    (l_Web_need : K.lookup f_Web_need = some ⟨oc_Web_need, od_Web_need, .func (PySem.W.fnOf "need" "Web.need" (defArgs s_Web_need) (defBody s_Web_need) (defScope s_Web_need) .none kV_Web_need dc_Web_need pm_Web_need an_Web_need cd_Web_need ct_Web_need), sl_Web_need⟩) (c_Web_need : PySem.W.codeIn K cd_Web_need "Web.need" = true) (k_Web_need : PySem.W.keepIn K (.ref f_Web_need) = true)
    {f_Web_ties : Addr} {oc_Web_ties kV_Web_ties dc_Web_ties pm_Web_ties cd_Web_ties ct_Web_ties : Value} {od_Web_ties an_Web_ties : Option Addr} {sl_Web_ties : Array (Option Value)}
    (a_Web_ties : PySem.W.findIn K (.ref C) "ties" = some (some (.ref f_Web_ties))) (i_Web_ties : PySem.W.isFn K (.ref f_Web_ties) = true)
    (l_Web_ties : K.lookup f_Web_ties = some ⟨oc_Web_ties, od_Web_ties, .func (PySem.W.fnOf "ties" "Web.ties" (defArgs s_Web_ties) (defBody s_Web_ties) (defScope s_Web_ties) .none kV_Web_ties dc_Web_ties pm_Web_ties an_Web_ties cd_Web_ties ct_Web_ties), sl_Web_ties⟩) (c_Web_ties : PySem.W.codeIn K cd_Web_ties "Web.ties" = true) (k_Web_ties : PySem.W.keepIn K (.ref f_Web_ties) = true)
    {f_Web_beside : Addr} {oc_Web_beside kV_Web_beside dc_Web_beside pm_Web_beside cd_Web_beside ct_Web_beside : Value} {od_Web_beside an_Web_beside : Option Addr} {sl_Web_beside : Array (Option Value)}
    (a_Web_beside : PySem.W.findIn K (.ref C) "beside" = some (some (.ref f_Web_beside))) (i_Web_beside : PySem.W.isFn K (.ref f_Web_beside) = true)
    (l_Web_beside : K.lookup f_Web_beside = some ⟨oc_Web_beside, od_Web_beside, .func (PySem.W.fnOf "beside" "Web.beside" (defArgs s_Web_beside) (defBody s_Web_beside) (defScope s_Web_beside) .none kV_Web_beside dc_Web_beside pm_Web_beside an_Web_beside cd_Web_beside ct_Web_beside), sl_Web_beside⟩) (c_Web_beside : PySem.W.codeIn K cd_Web_beside "Web.beside" = true) (k_Web_beside : PySem.W.keepIn K (.ref f_Web_beside) = true)
    {f_Web_pieces : Addr} {oc_Web_pieces kV_Web_pieces dc_Web_pieces pm_Web_pieces cd_Web_pieces ct_Web_pieces : Value} {od_Web_pieces an_Web_pieces : Option Addr} {sl_Web_pieces : Array (Option Value)}
    (a_Web_pieces : PySem.W.findIn K (.ref C) "pieces" = some (some (.ref f_Web_pieces))) (i_Web_pieces : PySem.W.isFn K (.ref f_Web_pieces) = true)
    (l_Web_pieces : K.lookup f_Web_pieces = some ⟨oc_Web_pieces, od_Web_pieces, .func (PySem.W.fnOf "pieces" "Web.pieces" (defArgs s_Web_pieces) (defBody s_Web_pieces) (defScope s_Web_pieces) .none kV_Web_pieces dc_Web_pieces pm_Web_pieces an_Web_pieces cd_Web_pieces ct_Web_pieces), sl_Web_pieces⟩) (c_Web_pieces : PySem.W.codeIn K cd_Web_pieces "Web.pieces" = true) (k_Web_pieces : PySem.W.keepIn K (.ref f_Web_pieces) = true)
    {f_is_turn : Addr} {oc_is_turn kV_is_turn dc_is_turn pm_is_turn cd_is_turn ct_is_turn : Value} {od_is_turn an_is_turn : Option Addr} {sl_is_turn : Array (Option Value)}
    (a_is_turn : PySem.W.nsIn K mainGlobals "is_turn" = some (some (.ref f_is_turn)))
    (l_is_turn : K.lookup f_is_turn = some ⟨oc_is_turn, od_is_turn, .func (PySem.W.fnOf "is_turn" "is_turn" (defArgs s_is_turn) (defBody s_is_turn) (defScope s_is_turn) .none kV_is_turn dc_is_turn pm_is_turn an_is_turn cd_is_turn ct_is_turn), sl_is_turn⟩) (c_is_turn : PySem.W.codeIn K cd_is_turn "is_turn" = true) (k_is_turn : PySem.W.keepIn K (.ref f_is_turn) = true)
    {f_are_turns : Addr} {oc_are_turns kV_are_turns dc_are_turns pm_are_turns cd_are_turns ct_are_turns : Value} {od_are_turns an_are_turns : Option Addr} {sl_are_turns : Array (Option Value)}
    (a_are_turns : PySem.W.nsIn K mainGlobals "are_turns" = some (some (.ref f_are_turns)))
    (l_are_turns : K.lookup f_are_turns = some ⟨oc_are_turns, od_are_turns, .func (PySem.W.fnOf "are_turns" "are_turns" (defArgs s_are_turns) (defBody s_are_turns) (defScope s_are_turns) .none kV_are_turns dc_are_turns pm_are_turns an_are_turns cd_are_turns ct_are_turns), sl_are_turns⟩) (c_are_turns : PySem.W.codeIn K cd_are_turns "are_turns" = true) (k_are_turns : PySem.W.keepIn K (.ref f_are_turns) = true)
    {f_behind : Addr} {oc_behind kV_behind dc_behind pm_behind cd_behind ct_behind : Value} {od_behind an_behind : Option Addr} {sl_behind : Array (Option Value)}
    (a_behind : PySem.W.nsIn K mainGlobals "behind" = some (some (.ref f_behind)))
    (l_behind : K.lookup f_behind = some ⟨oc_behind, od_behind, .func (PySem.W.fnOf "behind" "behind" (defArgs s_behind) (defBody s_behind) (defScope s_behind) .none kV_behind dc_behind pm_behind an_behind cd_behind ct_behind), sl_behind⟩) (c_behind : PySem.W.codeIn K cd_behind "behind" = true) (k_behind : PySem.W.keepIn K (.ref f_behind) = true)
    {f_walks : Addr} {oc_walks kV_walks dc_walks pm_walks cd_walks ct_walks : Value} {od_walks an_walks : Option Addr} {sl_walks : Array (Option Value)}
    (a_walks : PySem.W.nsIn K mainGlobals "walks" = some (some (.ref f_walks)))
    (l_walks : K.lookup f_walks = some ⟨oc_walks, od_walks, .func (PySem.W.fnOf "walks" "walks" (defArgs s_walks) (defBody s_walks) (defScope s_walks) .none kV_walks dc_walks pm_walks an_walks cd_walks ct_walks), sl_walks⟩) (c_walks : PySem.W.codeIn K cd_walks "walks" = true) (k_walks : PySem.W.keepIn K (.ref f_walks) = true)
    {f_flat : Addr} {oc_flat kV_flat dc_flat pm_flat cd_flat ct_flat : Value} {od_flat an_flat : Option Addr} {sl_flat : Array (Option Value)}
    (a_flat : PySem.W.nsIn K mainGlobals "flat" = some (some (.ref f_flat)))
    (l_flat : K.lookup f_flat = some ⟨oc_flat, od_flat, .func (PySem.W.fnOf "flat" "flat" (defArgs s_flat) (defBody s_flat) (defScope s_flat) .none kV_flat dc_flat pm_flat an_flat cd_flat ct_flat), sl_flat⟩) (c_flat : PySem.W.codeIn K cd_flat "flat" = true) (k_flat : PySem.W.keepIn K (.ref f_flat) = true)
    {f_pair_of : Addr} {oc_pair_of kV_pair_of dc_pair_of pm_pair_of cd_pair_of ct_pair_of : Value} {od_pair_of an_pair_of : Option Addr} {sl_pair_of : Array (Option Value)}
    (a_pair_of : PySem.W.nsIn K mainGlobals "pair_of" = some (some (.ref f_pair_of)))
    (l_pair_of : K.lookup f_pair_of = some ⟨oc_pair_of, od_pair_of, .func (PySem.W.fnOf "pair_of" "pair_of" (defArgs s_pair_of) (defBody s_pair_of) (defScope s_pair_of) .none kV_pair_of dc_pair_of pm_pair_of an_pair_of cd_pair_of ct_pair_of), sl_pair_of⟩) (c_pair_of : PySem.W.codeIn K cd_pair_of "pair_of" = true) (k_pair_of : PySem.W.keepIn K (.ref f_pair_of) = true)
    {f_joined : Addr} {oc_joined kV_joined dc_joined pm_joined cd_joined ct_joined : Value} {od_joined an_joined : Option Addr} {sl_joined : Array (Option Value)}
    (a_joined : PySem.W.nsIn K mainGlobals "joined" = some (some (.ref f_joined)))
    (l_joined : K.lookup f_joined = some ⟨oc_joined, od_joined, .func (PySem.W.fnOf "joined" "joined" (defArgs s_joined) (defBody s_joined) (defScope s_joined) .none kV_joined dc_joined pm_joined an_joined cd_joined ct_joined), sl_joined⟩) (c_joined : PySem.W.codeIn K cd_joined "joined" = true) (k_joined : PySem.W.keepIn K (.ref f_joined) = true)
    {f_blocks : Addr} {oc_blocks kV_blocks dc_blocks pm_blocks cd_blocks ct_blocks : Value} {od_blocks an_blocks : Option Addr} {sl_blocks : Array (Option Value)}
    (a_blocks : PySem.W.nsIn K mainGlobals "blocks" = some (some (.ref f_blocks)))
    (l_blocks : K.lookup f_blocks = some ⟨oc_blocks, od_blocks, .func (PySem.W.fnOf "blocks" "blocks" (defArgs s_blocks) (defBody s_blocks) (defScope s_blocks) .none kV_blocks dc_blocks pm_blocks an_blocks cd_blocks ct_blocks), sl_blocks⟩) (c_blocks : PySem.W.codeIn K cd_blocks "blocks" = true) (k_blocks : PySem.W.keepIn K (.ref f_blocks) = true)
    {f_near_of : Addr} {oc_near_of kV_near_of dc_near_of pm_near_of cd_near_of ct_near_of : Value} {od_near_of an_near_of : Option Addr} {sl_near_of : Array (Option Value)}
    (a_near_of : PySem.W.nsIn K mainGlobals "near_of" = some (some (.ref f_near_of)))
    (l_near_of : K.lookup f_near_of = some ⟨oc_near_of, od_near_of, .func (PySem.W.fnOf "near_of" "near_of" (defArgs s_near_of) (defBody s_near_of) (defScope s_near_of) .none kV_near_of dc_near_of pm_near_of an_near_of cd_near_of ct_near_of), sl_near_of⟩) (c_near_of : PySem.W.codeIn K cd_near_of "near_of" = true) (k_near_of : PySem.W.keepIn K (.ref f_near_of) = true)
    {f_way_in : Addr} {oc_way_in kV_way_in dc_way_in pm_way_in cd_way_in ct_way_in : Value} {od_way_in an_way_in : Option Addr} {sl_way_in : Array (Option Value)}
    (a_way_in : PySem.W.nsIn K mainGlobals "way_in" = some (some (.ref f_way_in)))
    (l_way_in : K.lookup f_way_in = some ⟨oc_way_in, od_way_in, .func (PySem.W.fnOf "way_in" "way_in" (defArgs s_way_in) (defBody s_way_in) (defScope s_way_in) .none kV_way_in dc_way_in pm_way_in an_way_in cd_way_in ct_way_in), sl_way_in⟩) (c_way_in : PySem.W.codeIn K cd_way_in "way_in" = true) (k_way_in : PySem.W.keepIn K (.ref f_way_in) = true)
    {f_first_ring : Addr} {oc_first_ring kV_first_ring dc_first_ring pm_first_ring cd_first_ring ct_first_ring : Value} {od_first_ring an_first_ring : Option Addr} {sl_first_ring : Array (Option Value)}
    (a_first_ring : PySem.W.nsIn K mainGlobals "first_ring" = some (some (.ref f_first_ring)))
    (l_first_ring : K.lookup f_first_ring = some ⟨oc_first_ring, od_first_ring, .func (PySem.W.fnOf "first_ring" "first_ring" (defArgs s_first_ring) (defBody s_first_ring) (defScope s_first_ring) .none kV_first_ring dc_first_ring pm_first_ring an_first_ring cd_first_ring ct_first_ring), sl_first_ring⟩) (c_first_ring : PySem.W.codeIn K cd_first_ring "first_ring" = true) (k_first_ring : PySem.W.keepIn K (.ref f_first_ring) = true)
    {f_pieces_left : Addr} {oc_pieces_left kV_pieces_left dc_pieces_left pm_pieces_left cd_pieces_left ct_pieces_left : Value} {od_pieces_left an_pieces_left : Option Addr} {sl_pieces_left : Array (Option Value)}
    (a_pieces_left : PySem.W.nsIn K mainGlobals "pieces_left" = some (some (.ref f_pieces_left)))
    (l_pieces_left : K.lookup f_pieces_left = some ⟨oc_pieces_left, od_pieces_left, .func (PySem.W.fnOf "pieces_left" "pieces_left" (defArgs s_pieces_left) (defBody s_pieces_left) (defScope s_pieces_left) .none kV_pieces_left dc_pieces_left pm_pieces_left an_pieces_left cd_pieces_left ct_pieces_left), sl_pieces_left⟩) (c_pieces_left : PySem.W.codeIn K cd_pieces_left "pieces_left" = true) (k_pieces_left : PySem.W.keepIn K (.ref f_pieces_left) = true)
    {f_fields_for : Addr} {oc_fields_for kV_fields_for dc_fields_for pm_fields_for cd_fields_for ct_fields_for : Value} {od_fields_for an_fields_for : Option Addr} {sl_fields_for : Array (Option Value)}
    (a_fields_for : PySem.W.nsIn K mainGlobals "fields_for" = some (some (.ref f_fields_for)))
    (l_fields_for : K.lookup f_fields_for = some ⟨oc_fields_for, od_fields_for, .func (PySem.W.fnOf "fields_for" "fields_for" (defArgs s_fields_for) (defBody s_fields_for) (defScope s_fields_for) .none kV_fields_for dc_fields_for pm_fields_for an_fields_for cd_fields_for ct_fields_for), sl_fields_for⟩) (c_fields_for : PySem.W.codeIn K cd_fields_for "fields_for" = true) (k_fields_for : PySem.W.keepIn K (.ref f_fields_for) = true)
    {f_parted : Addr} {oc_parted kV_parted dc_parted pm_parted cd_parted ct_parted : Value} {od_parted an_parted : Option Addr} {sl_parted : Array (Option Value)}
    (a_parted : PySem.W.nsIn K mainGlobals "parted" = some (some (.ref f_parted)))
    (l_parted : K.lookup f_parted = some ⟨oc_parted, od_parted, .func (PySem.W.fnOf "parted" "parted" (defArgs s_parted) (defBody s_parted) (defScope s_parted) .none kV_parted dc_parted pm_parted an_parted cd_parted ct_parted), sl_parted⟩) (c_parted : PySem.W.codeIn K cd_parted "parted" = true) (k_parted : PySem.W.keepIn K (.ref f_parted) = true)
    {f_chosen : Addr} {oc_chosen kV_chosen dc_chosen pm_chosen cd_chosen ct_chosen : Value} {od_chosen an_chosen : Option Addr} {sl_chosen : Array (Option Value)}
    (a_chosen : PySem.W.nsIn K mainGlobals "chosen" = some (some (.ref f_chosen)))
    (l_chosen : K.lookup f_chosen = some ⟨oc_chosen, od_chosen, .func (PySem.W.fnOf "chosen" "chosen" (defArgs s_chosen) (defBody s_chosen) (defScope s_chosen) .none kV_chosen dc_chosen pm_chosen an_chosen cd_chosen ct_chosen), sl_chosen⟩) (c_chosen : PySem.W.codeIn K cd_chosen "chosen" = true) (k_chosen : PySem.W.keepIn K (.ref f_chosen) = true)
    {f_fields_of : Addr} {oc_fields_of kV_fields_of dc_fields_of pm_fields_of cd_fields_of ct_fields_of : Value} {od_fields_of an_fields_of : Option Addr} {sl_fields_of : Array (Option Value)}
    (a_fields_of : PySem.W.nsIn K mainGlobals "fields_of" = some (some (.ref f_fields_of)))
    (l_fields_of : K.lookup f_fields_of = some ⟨oc_fields_of, od_fields_of, .func (PySem.W.fnOf "fields_of" "fields_of" (defArgs s_fields_of) (defBody s_fields_of) (defScope s_fields_of) .none kV_fields_of dc_fields_of pm_fields_of an_fields_of cd_fields_of ct_fields_of), sl_fields_of⟩) (c_fields_of : PySem.W.codeIn K cd_fields_of "fields_of" = true) (k_fields_of : PySem.W.keepIn K (.ref f_fields_of) = true)
    {f_turns_of : Addr} {oc_turns_of kV_turns_of dc_turns_of pm_turns_of cd_turns_of ct_turns_of : Value} {od_turns_of an_turns_of : Option Addr} {sl_turns_of : Array (Option Value)}
    (a_turns_of : PySem.W.nsIn K mainGlobals "turns_of" = some (some (.ref f_turns_of)))
    (l_turns_of : K.lookup f_turns_of = some ⟨oc_turns_of, od_turns_of, .func (PySem.W.fnOf "turns_of" "turns_of" (defArgs s_turns_of) (defBody s_turns_of) (defScope s_turns_of) .none kV_turns_of dc_turns_of pm_turns_of an_turns_of cd_turns_of ct_turns_of), sl_turns_of⟩) (c_turns_of : PySem.W.codeIn K cd_turns_of "turns_of" = true) (k_turns_of : PySem.W.keepIn K (.ref f_turns_of) = true)
    {f_drawn_block : Addr} {oc_drawn_block kV_drawn_block dc_drawn_block pm_drawn_block cd_drawn_block ct_drawn_block : Value} {od_drawn_block an_drawn_block : Option Addr} {sl_drawn_block : Array (Option Value)}
    (a_drawn_block : PySem.W.nsIn K mainGlobals "drawn_block" = some (some (.ref f_drawn_block)))
    (l_drawn_block : K.lookup f_drawn_block = some ⟨oc_drawn_block, od_drawn_block, .func (PySem.W.fnOf "drawn_block" "drawn_block" (defArgs s_drawn_block) (defBody s_drawn_block) (defScope s_drawn_block) .none kV_drawn_block dc_drawn_block pm_drawn_block an_drawn_block cd_drawn_block ct_drawn_block), sl_drawn_block⟩) (c_drawn_block : PySem.W.codeIn K cd_drawn_block "drawn_block" = true) (k_drawn_block : PySem.W.keepIn K (.ref f_drawn_block) = true)
    {f_drawn : Addr} {oc_drawn kV_drawn dc_drawn pm_drawn cd_drawn ct_drawn : Value} {od_drawn an_drawn : Option Addr} {sl_drawn : Array (Option Value)}
    (a_drawn : PySem.W.nsIn K mainGlobals "drawn" = some (some (.ref f_drawn)))
    (l_drawn : K.lookup f_drawn = some ⟨oc_drawn, od_drawn, .func (PySem.W.fnOf "drawn" "drawn" (defArgs s_drawn) (defBody s_drawn) (defScope s_drawn) .none kV_drawn dc_drawn pm_drawn an_drawn cd_drawn ct_drawn), sl_drawn⟩) (c_drawn : PySem.W.codeIn K cd_drawn "drawn" = true) (k_drawn : PySem.W.keepIn K (.ref f_drawn) = true)
    {f_l_cell_at : Addr} {oc_l_cell_at kV_l_cell_at dc_l_cell_at pm_l_cell_at cd_l_cell_at ct_l_cell_at : Value} {od_l_cell_at an_l_cell_at : Option Addr} {sl_l_cell_at : Array (Option Value)}
    (a_l_cell_at : PySem.W.nsIn K mainGlobals "_law_cell_at" = some (some (.ref f_l_cell_at)))
    (l_l_cell_at : K.lookup f_l_cell_at = some ⟨oc_l_cell_at, od_l_cell_at, .func (PySem.W.fnOf "_law_cell_at" "_law_cell_at" (defArgs s_l_cell_at) (defBody s_l_cell_at) (defScope s_l_cell_at) .none kV_l_cell_at dc_l_cell_at pm_l_cell_at an_l_cell_at cd_l_cell_at ct_l_cell_at), sl_l_cell_at⟩) (c_l_cell_at : PySem.W.codeIn K cd_l_cell_at "_law_cell_at" = true) (k_l_cell_at : PySem.W.keepIn K (.ref f_l_cell_at) = true)
    {f_l_many : Addr} {oc_l_many kV_l_many dc_l_many pm_l_many cd_l_many ct_l_many : Value} {od_l_many an_l_many : Option Addr} {sl_l_many : Array (Option Value)}
    (a_l_many : PySem.W.nsIn K mainGlobals "_law_many" = some (some (.ref f_l_many)))
    (l_l_many : K.lookup f_l_many = some ⟨oc_l_many, od_l_many, .func (PySem.W.fnOf "_law_many" "_law_many" (defArgs s_l_many) (defBody s_l_many) (defScope s_l_many) .none kV_l_many dc_l_many pm_l_many an_l_many cd_l_many ct_l_many), sl_l_many⟩) (c_l_many : PySem.W.codeIn K cd_l_many "_law_many" = true) (k_l_many : PySem.W.keepIn K (.ref f_l_many) = true)
    {f_l_ties : Addr} {oc_l_ties kV_l_ties dc_l_ties pm_l_ties cd_l_ties ct_l_ties : Value} {od_l_ties an_l_ties : Option Addr} {sl_l_ties : Array (Option Value)}
    (a_l_ties : PySem.W.nsIn K mainGlobals "_law_ties" = some (some (.ref f_l_ties)))
    (l_l_ties : K.lookup f_l_ties = some ⟨oc_l_ties, od_l_ties, .func (PySem.W.fnOf "_law_ties" "_law_ties" (defArgs s_l_ties) (defBody s_l_ties) (defScope s_l_ties) .none kV_l_ties dc_l_ties pm_l_ties an_l_ties cd_l_ties ct_l_ties), sl_l_ties⟩) (c_l_ties : PySem.W.codeIn K cd_l_ties "_law_ties" = true) (k_l_ties : PySem.W.keepIn K (.ref f_l_ties) = true)
    {f_l_order_by : Addr} {oc_l_order_by kV_l_order_by dc_l_order_by pm_l_order_by cd_l_order_by ct_l_order_by : Value} {od_l_order_by an_l_order_by : Option Addr} {sl_l_order_by : Array (Option Value)}
    (a_l_order_by : PySem.W.nsIn K mainGlobals "_law_order_by" = some (some (.ref f_l_order_by)))
    (l_l_order_by : K.lookup f_l_order_by = some ⟨oc_l_order_by, od_l_order_by, .func (PySem.W.fnOf "_law_order_by" "_law_order_by" (defArgs s_l_order_by) (defBody s_l_order_by) (defScope s_l_order_by) .none kV_l_order_by dc_l_order_by pm_l_order_by an_l_order_by cd_l_order_by ct_l_order_by), sl_l_order_by⟩) (c_l_order_by : PySem.W.codeIn K cd_l_order_by "_law_order_by" = true) (k_l_order_by : PySem.W.keepIn K (.ref f_l_order_by) = true)
    {f_l_turns_by : Addr} {oc_l_turns_by kV_l_turns_by dc_l_turns_by pm_l_turns_by cd_l_turns_by ct_l_turns_by : Value} {od_l_turns_by an_l_turns_by : Option Addr} {sl_l_turns_by : Array (Option Value)}
    (a_l_turns_by : PySem.W.nsIn K mainGlobals "_law_turns_by" = some (some (.ref f_l_turns_by)))
    (l_l_turns_by : K.lookup f_l_turns_by = some ⟨oc_l_turns_by, od_l_turns_by, .func (PySem.W.fnOf "_law_turns_by" "_law_turns_by" (defArgs s_l_turns_by) (defBody s_l_turns_by) (defScope s_l_turns_by) .none kV_l_turns_by dc_l_turns_by pm_l_turns_by an_l_turns_by cd_l_turns_by ct_l_turns_by), sl_l_turns_by⟩) (c_l_turns_by : PySem.W.codeIn K cd_l_turns_by "_law_turns_by" = true) (k_l_turns_by : PySem.W.keepIn K (.ref f_l_turns_by) = true)
    {f_l_labels : Addr} {oc_l_labels kV_l_labels dc_l_labels pm_l_labels cd_l_labels ct_l_labels : Value} {od_l_labels an_l_labels : Option Addr} {sl_l_labels : Array (Option Value)}
    (a_l_labels : PySem.W.nsIn K mainGlobals "_law_labels" = some (some (.ref f_l_labels)))
    (l_l_labels : K.lookup f_l_labels = some ⟨oc_l_labels, od_l_labels, .func (PySem.W.fnOf "_law_labels" "_law_labels" (defArgs s_l_labels) (defBody s_l_labels) (defScope s_l_labels) .none kV_l_labels dc_l_labels pm_l_labels an_l_labels cd_l_labels ct_l_labels), sl_l_labels⟩) (c_l_labels : PySem.W.codeIn K cd_l_labels "_law_labels" = true) (k_l_labels : PySem.W.keepIn K (.ref f_l_labels) = true)
    {f_l_firsts : Addr} {oc_l_firsts kV_l_firsts dc_l_firsts pm_l_firsts cd_l_firsts ct_l_firsts : Value} {od_l_firsts an_l_firsts : Option Addr} {sl_l_firsts : Array (Option Value)}
    (a_l_firsts : PySem.W.nsIn K mainGlobals "_law_firsts" = some (some (.ref f_l_firsts)))
    (l_l_firsts : K.lookup f_l_firsts = some ⟨oc_l_firsts, od_l_firsts, .func (PySem.W.fnOf "_law_firsts" "_law_firsts" (defArgs s_l_firsts) (defBody s_l_firsts) (defScope s_l_firsts) .none kV_l_firsts dc_l_firsts pm_l_firsts an_l_firsts cd_l_firsts ct_l_firsts), sl_l_firsts⟩) (c_l_firsts : PySem.W.codeIn K cd_l_firsts "_law_firsts" = true) (k_l_firsts : PySem.W.keepIn K (.ref f_l_firsts) = true)
    {f_l_is_flat : Addr} {oc_l_is_flat kV_l_is_flat dc_l_is_flat pm_l_is_flat cd_l_is_flat ct_l_is_flat : Value} {od_l_is_flat an_l_is_flat : Option Addr} {sl_l_is_flat : Array (Option Value)}
    (a_l_is_flat : PySem.W.nsIn K mainGlobals "_law_is_flat" = some (some (.ref f_l_is_flat)))
    (l_l_is_flat : K.lookup f_l_is_flat = some ⟨oc_l_is_flat, od_l_is_flat, .func (PySem.W.fnOf "_law_is_flat" "_law_is_flat" (defArgs s_l_is_flat) (defBody s_l_is_flat) (defScope s_l_is_flat) .none kV_l_is_flat dc_l_is_flat pm_l_is_flat an_l_is_flat cd_l_is_flat ct_l_is_flat), sl_l_is_flat⟩) (c_l_is_flat : PySem.W.codeIn K cd_l_is_flat "_law_is_flat" = true) (k_l_is_flat : PySem.W.keepIn K (.ref f_l_is_flat) = true)
    {f_l_shaken : Addr} {oc_l_shaken kV_l_shaken dc_l_shaken pm_l_shaken cd_l_shaken ct_l_shaken : Value} {od_l_shaken an_l_shaken : Option Addr} {sl_l_shaken : Array (Option Value)}
    (a_l_shaken : PySem.W.nsIn K mainGlobals "_law_shaken" = some (some (.ref f_l_shaken)))
    (l_l_shaken : K.lookup f_l_shaken = some ⟨oc_l_shaken, od_l_shaken, .func (PySem.W.fnOf "_law_shaken" "_law_shaken" (defArgs s_l_shaken) (defBody s_l_shaken) (defScope s_l_shaken) .none kV_l_shaken dc_l_shaken pm_l_shaken an_l_shaken cd_l_shaken ct_l_shaken), sl_l_shaken⟩) (c_l_shaken : PySem.W.codeIn K cd_l_shaken "_law_shaken" = true) (k_l_shaken : PySem.W.keepIn K (.ref f_l_shaken) = true)
    {f_l_stays : Addr} {oc_l_stays kV_l_stays dc_l_stays pm_l_stays cd_l_stays ct_l_stays : Value} {od_l_stays an_l_stays : Option Addr} {sl_l_stays : Array (Option Value)}
    (a_l_stays : PySem.W.nsIn K mainGlobals "_law_stays" = some (some (.ref f_l_stays)))
    (l_l_stays : K.lookup f_l_stays = some ⟨oc_l_stays, od_l_stays, .func (PySem.W.fnOf "_law_stays" "_law_stays" (defArgs s_l_stays) (defBody s_l_stays) (defScope s_l_stays) .none kV_l_stays dc_l_stays pm_l_stays an_l_stays cd_l_stays ct_l_stays), sl_l_stays⟩) (c_l_stays : PySem.W.codeIn K cd_l_stays "_law_stays" = true) (k_l_stays : PySem.W.keepIn K (.ref f_l_stays) = true)
    {f_law : Addr} {oc_law kV_law dc_law pm_law cd_law ct_law : Value} {od_law an_law : Option Addr} {sl_law : Array (Option Value)}
    (a_law : PySem.W.nsIn K mainGlobals "law" = some (some (.ref f_law)))
    (l_law : K.lookup f_law = some ⟨oc_law, od_law, .func (PySem.W.fnOf "law" "law" (defArgs s_law) (defBody s_law) (defScope s_law) .none kV_law dc_law pm_law an_law cd_law ct_law), sl_law⟩) (c_law : PySem.W.codeIn K cd_law "law" = true) (k_law : PySem.W.keepIn K (.ref f_law) = true)
    (z_bool : PySem.W.nsIn K mainGlobals "bool" = some none)
    (z_int : PySem.W.nsIn K mainGlobals "int" = some none)
    (z_isinstance : PySem.W.nsIn K mainGlobals "isinstance" = some none)
    (z_len : PySem.W.nsIn K mainGlobals "len" = some none)
    (z_list : PySem.W.nsIn K mainGlobals "list" = some none)
    (z_max : PySem.W.nsIn K mainGlobals "max" = some none)
    (z_min : PySem.W.nsIn K mainGlobals "min" = some none)
    (z_range : PySem.W.nsIn K mainGlobals "range" = some none)
    (z_reversed : PySem.W.nsIn K mainGlobals "reversed" = some none)
    (z_sorted : PySem.W.nsIn K mainGlobals "sorted" = some none)
    (z_sum : PySem.W.nsIn K mainGlobals "sum" = some none)
    (z_tuple : PySem.W.nsIn K mainGlobals "tuple" = some none)
    {t_MOST_POINTS : Tok} (q_MOST_POINTS : PySem.W.nsIn K mainGlobals "MOST_POINTS" = some (some (.int 16 t_MOST_POINTS)))
    {t_MOST_TIES : Tok} (q_MOST_TIES : PySem.W.nsIn K mainGlobals "MOST_TIES" = some (some (.int 40 t_MOST_TIES)))
    : ∃ fd : FuncData, (∀ (s : Shared) (v : Value), BindsTo s fd ⟨[v], []⟩ [("_law_script", v)]) ∧ ∀ base : Heap, K.In base → base.Ns mainGlobals mg → FnOk l.prog w K mg base CX0 7 fa fd ["_law_script"] (sp_law K 0) := by
  have e := hfa.symm.trans (PySem.W.mg_of X G a_law)
  cases e
  have F_is_whole := fun_mk (st := s_is_whole) l_is_whole c_is_whole k_is_whole
  have b_is_whole := F_is_whole.binds (ps := ["thing"]) fun _ _ _ _ _ _ us hl => match us, hl with | [_], _ => rfl
  have F_come_to := fun_mk (st := s_come_to) l_come_to c_come_to k_come_to
  have b_come_to := F_come_to.binds (ps := ["near", "start", "barred"]) fun _ _ _ _ _ _ us hl => match us, hl with | [_, _, _], _ => rfl
  have F_Web_init := fun_mk (st := s_Web_init) l_Web_init c_Web_init k_Web_init
  have b_Web_init := F_Web_init.binds (ps := ["self", "many", "ties"]) fun _ _ _ _ _ _ us hl => match us, hl with | [_, _, _], _ => rfl
  have F_Web_has := fun_mk (st := s_Web_has) l_Web_has c_Web_has k_Web_has
  have b_Web_has := F_Web_has.binds (ps := ["self", "point"]) fun _ _ _ _ _ _ us hl => match us, hl with | [_, _], _ => rfl
  have F_Web_need := fun_mk (st := s_Web_need) l_Web_need c_Web_need k_Web_need
  have b_Web_need := F_Web_need.binds (ps := ["self", "point"]) fun _ _ _ _ _ _ us hl => match us, hl with | [_, _], _ => rfl
  have F_Web_ties := fun_mk (st := s_Web_ties) l_Web_ties c_Web_ties k_Web_ties
  have b_Web_ties := F_Web_ties.binds (ps := ["self"]) fun _ _ _ _ _ _ us hl => match us, hl with | [_], _ => rfl
  have F_Web_beside := fun_mk (st := s_Web_beside) l_Web_beside c_Web_beside k_Web_beside
  have b_Web_beside := F_Web_beside.binds (ps := ["self", "point"]) fun _ _ _ _ _ _ us hl => match us, hl with | [_, _], _ => rfl
  have F_Web_pieces := fun_mk (st := s_Web_pieces) l_Web_pieces c_Web_pieces k_Web_pieces
  have b_Web_pieces := F_Web_pieces.binds (ps := ["self"]) fun _ _ _ _ _ _ us hl => match us, hl with | [_], _ => rfl
  have F_is_turn := fun_mk (st := s_is_turn) l_is_turn c_is_turn k_is_turn
  have b_is_turn := F_is_turn.binds (ps := ["turn", "near"]) fun _ _ _ _ _ _ us hl => match us, hl with | [_, _], _ => rfl
  have F_are_turns := fun_mk (st := s_are_turns) l_are_turns c_are_turns k_are_turns
  have b_are_turns := F_are_turns.binds (ps := ["web", "turns"]) fun _ _ _ _ _ _ us hl => match us, hl with | [_, _], _ => rfl
  have F_behind := fun_mk (st := s_behind) l_behind c_behind k_behind
  have b_behind := F_behind.binds (ps := ["turns", "one", "other"]) fun _ _ _ _ _ _ us hl => match us, hl with | [_, _, _], _ => rfl
  have F_walks := fun_mk (st := s_walks) l_walks c_walks k_walks
  have b_walks := F_walks.binds (ps := ["web", "turns"]) fun _ _ _ _ _ _ us hl => match us, hl with | [_, _], _ => rfl
  have F_flat := fun_mk (st := s_flat) l_flat c_flat k_flat
  have b_flat := F_flat.binds (ps := ["web", "turns"]) fun _ _ _ _ _ _ us hl => match us, hl with | [_, _], _ => rfl
  have F_pair_of := fun_mk (st := s_pair_of) l_pair_of c_pair_of k_pair_of
  have b_pair_of := F_pair_of.binds (ps := ["one", "other"]) fun _ _ _ _ _ _ us hl => match us, hl with | [_, _], _ => rfl
  have F_joined := fun_mk (st := s_joined) l_joined c_joined k_joined
  have b_joined := F_joined.binds (ps := ["labels", "one", "other"]) fun _ _ _ _ _ _ us hl => match us, hl with | [_, _, _], _ => rfl
  have F_blocks := fun_mk (st := s_blocks) l_blocks c_blocks k_blocks
  have b_blocks := F_blocks.binds (ps := ["web"]) fun _ _ _ _ _ _ us hl => match us, hl with | [_], _ => rfl
  have F_near_of := fun_mk (st := s_near_of) l_near_of c_near_of k_near_of
  have b_near_of := F_near_of.binds (ps := ["ties"]) fun _ _ _ _ _ _ us hl => match us, hl with | [_], _ => rfl
  have F_way_in := fun_mk (st := s_way_in) l_way_in c_way_in k_way_in
  have b_way_in := F_way_in.binds (ps := ["near", "start", "goals", "inner"]) fun _ _ _ _ _ _ us hl => match us, hl with | [_, _, _, _], _ => rfl
  have F_first_ring := fun_mk (st := s_first_ring) l_first_ring c_first_ring k_first_ring
  have b_first_ring := F_first_ring.binds (ps := ["near", "tie"]) fun _ _ _ _ _ _ us hl => match us, hl with | [_, _], _ => rfl
  have F_pieces_left := fun_mk (st := s_pieces_left) l_pieces_left c_pieces_left k_pieces_left
  have b_pieces_left := F_pieces_left.binds (ps := ["near", "ties", "placed", "laid"]) fun _ _ _ _ _ _ us hl => match us, hl with | [_, _, _, _], _ => rfl
  have F_fields_for := fun_mk (st := s_fields_for) l_fields_for c_fields_for k_fields_for
  have b_fields_for := F_fields_for.binds (ps := ["fields", "ends"]) fun _ _ _ _ _ _ us hl => match us, hl with | [_, _], _ => rfl
  have F_parted := fun_mk (st := s_parted) l_parted c_parted k_parted
  have b_parted := F_parted.binds (ps := ["field", "way"]) fun _ _ _ _ _ _ us hl => match us, hl with | [_, _], _ => rfl
  have F_chosen := fun_mk (st := s_chosen) l_chosen c_chosen k_chosen
  have b_chosen := F_chosen.binds (ps := ["fields", "left"]) fun _ _ _ _ _ _ us hl => match us, hl with | [_, _], _ => rfl
  have F_fields_of := fun_mk (st := s_fields_of) l_fields_of c_fields_of k_fields_of
  have b_fields_of := F_fields_of.binds (ps := ["ties"]) fun _ _ _ _ _ _ us hl => match us, hl with | [_], _ => rfl
  have F_turns_of := fun_mk (st := s_turns_of) l_turns_of c_turns_of k_turns_of
  have b_turns_of := F_turns_of.binds (ps := ["fields", "near"]) fun _ _ _ _ _ _ us hl => match us, hl with | [_, _], _ => rfl
  have F_drawn_block := fun_mk (st := s_drawn_block) l_drawn_block c_drawn_block k_drawn_block
  have b_drawn_block := F_drawn_block.binds (ps := ["ties"]) fun _ _ _ _ _ _ us hl => match us, hl with | [_], _ => rfl
  have F_drawn := fun_mk (st := s_drawn) l_drawn c_drawn k_drawn
  have b_drawn := F_drawn.binds (ps := ["web"]) fun _ _ _ _ _ _ us hl => match us, hl with | [_], _ => rfl
  have F_l_cell_at := fun_mk (st := s_l_cell_at) l_l_cell_at c_l_cell_at k_l_cell_at
  have b_l_cell_at := F_l_cell_at.binds (ps := ["_law_script", "_law_k"]) fun _ _ _ _ _ _ us hl => match us, hl with | [_, _], _ => rfl
  have F_l_many := fun_mk (st := s_l_many) l_l_many c_l_many k_l_many
  have b_l_many := F_l_many.binds (ps := ["_law_script"]) fun _ _ _ _ _ _ us hl => match us, hl with | [_], _ => rfl
  have F_l_ties := fun_mk (st := s_l_ties) l_l_ties c_l_ties k_l_ties
  have b_l_ties := F_l_ties.binds (ps := ["_law_script", "_law_many_here"]) fun _ _ _ _ _ _ us hl => match us, hl with | [_, _], _ => rfl
  have F_l_order_by := fun_mk (st := s_l_order_by) l_l_order_by c_l_order_by k_l_order_by
  have b_l_order_by := F_l_order_by.binds (ps := ["_law_cell", "_law_row"]) fun _ _ _ _ _ _ us hl => match us, hl with | [_, _], _ => rfl
  have F_l_turns_by := fun_mk (st := s_l_turns_by) l_l_turns_by c_l_turns_by k_l_turns_by
  have b_l_turns_by := F_l_turns_by.binds (ps := ["_law_script", "_law_many_here", "_law_ties_here"]) fun _ _ _ _ _ _ us hl => match us, hl with | [_, _, _], _ => rfl
  have F_l_labels := fun_mk (st := s_l_labels) l_l_labels c_l_labels k_l_labels
  have b_l_labels := F_l_labels.binds (ps := ["_law_ties_here", "_law_many_here"]) fun _ _ _ _ _ _ us hl => match us, hl with | [_, _], _ => rfl
  have F_l_firsts := fun_mk (st := s_l_firsts) l_l_firsts c_l_firsts k_l_firsts
  have b_l_firsts := F_l_firsts.binds (ps := ["_law_turns", "_law_ties_here"]) fun _ _ _ _ _ _ us hl => match us, hl with | [_, _], _ => rfl
  have F_l_is_flat := fun_mk (st := s_l_is_flat) l_l_is_flat c_l_is_flat k_l_is_flat
  have b_l_is_flat := F_l_is_flat.binds (ps := ["_law_turns", "_law_ties_here", "_law_many_here"]) fun _ _ _ _ _ _ us hl => match us, hl with | [_, _, _], _ => rfl
  have F_l_shaken := fun_mk (st := s_l_shaken) l_l_shaken c_l_shaken k_l_shaken
  have b_l_shaken := F_l_shaken.binds (ps := ["_law_turns", "_law_cell"]) fun _ _ _ _ _ _ us hl => match us, hl with | [_, _], _ => rfl
  have F_l_stays := fun_mk (st := s_l_stays) l_l_stays c_l_stays k_l_stays
  have b_l_stays := F_l_stays.binds (ps := ["_law_web", "_law_ties_here", "_law_many_here"]) fun _ _ _ _ _ _ us hl => match us, hl with | [_, _, _], _ => rfl
  have T : Txt K mg C :=
    { cl := ⟨pg, hd, po, sa⟩, nM := nM, nN := nN, g_Web := PySem.W.mg_of X G aC, b_bool := PySem.W.mg_none_of X G z_bool, b_int := PySem.W.mg_none_of X G z_int, b_isinstance := PySem.W.mg_none_of X G z_isinstance, b_len := PySem.W.mg_none_of X G z_len, b_list := PySem.W.mg_none_of X G z_list, b_max := PySem.W.mg_none_of X G z_max, b_min := PySem.W.mg_none_of X G z_min, b_range := PySem.W.mg_none_of X G z_range, b_reversed := PySem.W.mg_none_of X G z_reversed, b_sorted := PySem.W.mg_none_of X G z_sorted, b_sum := PySem.W.mg_none_of X G z_sum, b_tuple := PySem.W.mg_none_of X G z_tuple, t_MOST_POINTS := _, c_MOST_POINTS := PySem.W.mg_of X G q_MOST_POINTS, t_MOST_TIES := _, c_MOST_TIES := PySem.W.mg_of X G q_MOST_TIES, is_whole := ⟨_, _, F_is_whole, PySem.W.mg_of X G a_is_whole, b_is_whole⟩, come_to := ⟨_, _, F_come_to, PySem.W.mg_of X G a_come_to, b_come_to⟩, Web_init := ⟨_, _, F_Web_init, ⟨a_Web_init, i_Web_init, k_Web_init⟩, b_Web_init⟩, Web_has := ⟨_, _, F_Web_has, ⟨a_Web_has, i_Web_has, k_Web_has⟩, b_Web_has⟩, Web_need := ⟨_, _, F_Web_need, ⟨a_Web_need, i_Web_need, k_Web_need⟩, b_Web_need⟩, Web_ties := ⟨_, _, F_Web_ties, ⟨a_Web_ties, i_Web_ties, k_Web_ties⟩, b_Web_ties⟩, Web_beside := ⟨_, _, F_Web_beside, ⟨a_Web_beside, i_Web_beside, k_Web_beside⟩, b_Web_beside⟩, Web_pieces := ⟨_, _, F_Web_pieces, ⟨a_Web_pieces, i_Web_pieces, k_Web_pieces⟩, b_Web_pieces⟩, is_turn := ⟨_, _, F_is_turn, PySem.W.mg_of X G a_is_turn, b_is_turn⟩, are_turns := ⟨_, _, F_are_turns, PySem.W.mg_of X G a_are_turns, b_are_turns⟩, behind := ⟨_, _, F_behind, PySem.W.mg_of X G a_behind, b_behind⟩, walks := ⟨_, _, F_walks, PySem.W.mg_of X G a_walks, b_walks⟩, flat := ⟨_, _, F_flat, PySem.W.mg_of X G a_flat, b_flat⟩, pair_of := ⟨_, _, F_pair_of, PySem.W.mg_of X G a_pair_of, b_pair_of⟩, joined := ⟨_, _, F_joined, PySem.W.mg_of X G a_joined, b_joined⟩, blocks := ⟨_, _, F_blocks, PySem.W.mg_of X G a_blocks, b_blocks⟩, near_of := ⟨_, _, F_near_of, PySem.W.mg_of X G a_near_of, b_near_of⟩, way_in := ⟨_, _, F_way_in, PySem.W.mg_of X G a_way_in, b_way_in⟩, first_ring := ⟨_, _, F_first_ring, PySem.W.mg_of X G a_first_ring, b_first_ring⟩, pieces_left := ⟨_, _, F_pieces_left, PySem.W.mg_of X G a_pieces_left, b_pieces_left⟩, fields_for := ⟨_, _, F_fields_for, PySem.W.mg_of X G a_fields_for, b_fields_for⟩, parted := ⟨_, _, F_parted, PySem.W.mg_of X G a_parted, b_parted⟩, chosen := ⟨_, _, F_chosen, PySem.W.mg_of X G a_chosen, b_chosen⟩, fields_of := ⟨_, _, F_fields_of, PySem.W.mg_of X G a_fields_of, b_fields_of⟩, turns_of := ⟨_, _, F_turns_of, PySem.W.mg_of X G a_turns_of, b_turns_of⟩, drawn_block := ⟨_, _, F_drawn_block, PySem.W.mg_of X G a_drawn_block, b_drawn_block⟩, drawn := ⟨_, _, F_drawn, PySem.W.mg_of X G a_drawn, b_drawn⟩, l_cell_at := ⟨_, _, F_l_cell_at, PySem.W.mg_of X G a_l_cell_at, b_l_cell_at⟩, l_many := ⟨_, _, F_l_many, PySem.W.mg_of X G a_l_many, b_l_many⟩, l_ties := ⟨_, _, F_l_ties, PySem.W.mg_of X G a_l_ties, b_l_ties⟩, l_order_by := ⟨_, _, F_l_order_by, PySem.W.mg_of X G a_l_order_by, b_l_order_by⟩, l_turns_by := ⟨_, _, F_l_turns_by, PySem.W.mg_of X G a_l_turns_by, b_l_turns_by⟩, l_labels := ⟨_, _, F_l_labels, PySem.W.mg_of X G a_l_labels, b_l_labels⟩, l_firsts := ⟨_, _, F_l_firsts, PySem.W.mg_of X G a_l_firsts, b_l_firsts⟩, l_is_flat := ⟨_, _, F_l_is_flat, PySem.W.mg_of X G a_l_is_flat, b_l_is_flat⟩, l_shaken := ⟨_, _, F_l_shaken, PySem.W.mg_of X G a_l_shaken, b_l_shaken⟩, l_stays := ⟨_, _, F_l_stays, PySem.W.mg_of X G a_l_stays, b_l_stays⟩, M := ⟨mk, a_Web_init, i_Web_init, kc⟩ }
  exact ⟨_, fun s v => .of_eq rfl, fun base _ _ => by
    have z := ok_law (P := l.prog) (w := w) (mg := mg) (base := base) (C := C) (fun_mk (st := s_law) l_law c_law k_law) T
    exact z⟩
theorem walk {l : PySem.W.OpenLaw} {q : Program} {loose : List Str} {XP : (Str → Option Value) → Heap → Prop} {YP : World → Heap → Prop} {d : DefRec} {K : Params → PySem.W.Frag} (hn : l.most = some 63) (hdf : d.params.defaults = [])
    (hY : ∀ (w : World) (h : Heap), YP w h → (K w.params).In h)
    (F : ∀ (w : World) (mg : Str → Option Value) (fa : Addr) (h : Heap), (K w.params).In h → h.Ns mainGlobals mg → mg d.name = some (.ref fa) →
      ∃ fd : FuncData, (∀ (s : Shared) (u : Value), BindsTo s fd ⟨[u], []⟩ [("_law_script", u)]) ∧ ∀ base : Heap, (K w.params).In base → base.Ns mainGlobals mg → FnOk l.prog w (K w.params) mg base CX0 7 fa fd ["_law_script"] (sp_law (K w.params) 0)) :
    PySem.W.WalkO q loose XP YP l.row.toRowW d [] (fun f vs => PySem.call f vs) :=
  L2.walk_of (n := 63) (k := 7) (x := "_law_script") (CX := fun _ => CX0) (sp := fun w => sp_law (K w.params) 0) hn (by decide) hdf ⟨rfl, by decide, by decide⟩ hY F (fun _ _ a ns hl _ hS => ⟨a, ns, rfl, hS, hl, fun _ => rfl⟩) fun _ _ _ _ _ z => z
end R07

open PySem PySem.W PyProof.Rows in
set_option maxRecDepth 100000 in
set_option maxHeartbeats 0 in
theorem PySem.Challenge.cw_flatdraw_k07_flat_holds : PySem.Challenge.rw_flatdraw_k07_flat.Holds := by
  w_on; o_law; k_head; (case hw => w_witness2)
  k_fill
  refine R07.walk (l := PySem.Challenge.rw_flatdraw_k07_flat) rfl rfl (fun w h Y => PySem.W.kIn_of Y) ?F
  case F =>
    intro w mg fa h KX G hmg
    refine' R07.all_mk KX G hmg ?aC ?pg ?hd ?po ?sa ?mk ?kc ?nM ?nN ?a_is_whole ?l_is_whole ?c_is_whole ?k_is_whole ?a_come_to ?l_come_to ?c_come_to ?k_come_to ?a_Web_init ?i_Web_init ?l_Web_init ?c_Web_init ?k_Web_init ?a_Web_has ?i_Web_has ?l_Web_has ?c_Web_has ?k_Web_has ?a_Web_need ?i_Web_need ?l_Web_need ?c_Web_need ?k_Web_need ?a_Web_ties ?i_Web_ties ?l_Web_ties ?c_Web_ties ?k_Web_ties ?a_Web_beside ?i_Web_beside ?l_Web_beside ?c_Web_beside ?k_Web_beside ?a_Web_pieces ?i_Web_pieces ?l_Web_pieces ?c_Web_pieces ?k_Web_pieces ?a_is_turn ?l_is_turn ?c_is_turn ?k_is_turn ?a_are_turns ?l_are_turns ?c_are_turns ?k_are_turns ?a_behind ?l_behind ?c_behind ?k_behind ?a_walks ?l_walks ?c_walks ?k_walks ?a_flat ?l_flat ?c_flat ?k_flat ?a_pair_of ?l_pair_of ?c_pair_of ?k_pair_of ?a_joined ?l_joined ?c_joined ?k_joined ?a_blocks ?l_blocks ?c_blocks ?k_blocks ?a_near_of ?l_near_of ?c_near_of ?k_near_of ?a_way_in ?l_way_in ?c_way_in ?k_way_in ?a_first_ring ?l_first_ring ?c_first_ring ?k_first_ring ?a_pieces_left ?l_pieces_left ?c_pieces_left ?k_pieces_left ?a_fields_for ?l_fields_for ?c_fields_for ?k_fields_for ?a_parted ?l_parted ?c_parted ?k_parted ?a_chosen ?l_chosen ?c_chosen ?k_chosen ?a_fields_of ?l_fields_of ?c_fields_of ?k_fields_of ?a_turns_of ?l_turns_of ?c_turns_of ?k_turns_of ?a_drawn_block ?l_drawn_block ?c_drawn_block ?k_drawn_block ?a_drawn ?l_drawn ?c_drawn ?k_drawn ?a_l_cell_at ?l_l_cell_at ?c_l_cell_at ?k_l_cell_at ?a_l_many ?l_l_many ?c_l_many ?k_l_many ?a_l_ties ?l_l_ties ?c_l_ties ?k_l_ties ?a_l_order_by ?l_l_order_by ?c_l_order_by ?k_l_order_by ?a_l_turns_by ?l_l_turns_by ?c_l_turns_by ?k_l_turns_by ?a_l_labels ?l_l_labels ?c_l_labels ?k_l_labels ?a_l_firsts ?l_l_firsts ?c_l_firsts ?k_l_firsts ?a_l_is_flat ?l_l_is_flat ?c_l_is_flat ?k_l_is_flat ?a_l_shaken ?l_l_shaken ?c_l_shaken ?k_l_shaken ?a_l_stays ?l_l_stays ?c_l_stays ?k_l_stays ?a_law ?l_law ?c_law ?k_law ?z_bool ?z_int ?z_isinstance ?z_len ?z_list ?z_max ?z_min ?z_range ?z_reversed ?z_sorted ?z_sum ?z_tuple ?q_MOST_POINTS ?q_MOST_TIES
    (case aC => k_is)
    (case pg => k_is)
    (case hd => k_is)
    (case po => k_is)
    (case sa => k_is)
    (case mk => k_is)
    (case kc => k_is)
    (case nM => k_is)
    (case nN => k_is)
    (case a_is_whole => k_is)
    (case l_is_whole => k_is)
    (case c_is_whole => k_is)
    (case k_is_whole => k_is)
    (case a_come_to => k_is)
    (case l_come_to => k_is)
    (case c_come_to => k_is)
    (case k_come_to => k_is)
    (case a_Web_init => k_is)
    (case i_Web_init => k_is)
    (case l_Web_init => k_is)
    (case c_Web_init => k_is)
    (case k_Web_init => k_is)
    (case a_Web_has => k_is)
    (case i_Web_has => k_is)
    (case l_Web_has => k_is)
    (case c_Web_has => k_is)
    (case k_Web_has => k_is)
    (case a_Web_need => k_is)
    (case i_Web_need => k_is)
    (case l_Web_need => k_is)
    (case c_Web_need => k_is)
    (case k_Web_need => k_is)
    (case a_Web_ties => k_is)
    (case i_Web_ties => k_is)
    (case l_Web_ties => k_is)
    (case c_Web_ties => k_is)
    (case k_Web_ties => k_is)
    (case a_Web_beside => k_is)
    (case i_Web_beside => k_is)
    (case l_Web_beside => k_is)
    (case c_Web_beside => k_is)
    (case k_Web_beside => k_is)
    (case a_Web_pieces => k_is)
    (case i_Web_pieces => k_is)
    (case l_Web_pieces => k_is)
    (case c_Web_pieces => k_is)
    (case k_Web_pieces => k_is)
    (case a_is_turn => k_is)
    (case l_is_turn => k_is)
    (case c_is_turn => k_is)
    (case k_is_turn => k_is)
    (case a_are_turns => k_is)
    (case l_are_turns => k_is)
    (case c_are_turns => k_is)
    (case k_are_turns => k_is)
    (case a_behind => k_is)
    (case l_behind => k_is)
    (case c_behind => k_is)
    (case k_behind => k_is)
    (case a_walks => k_is)
    (case l_walks => k_is)
    (case c_walks => k_is)
    (case k_walks => k_is)
    (case a_flat => k_is)
    (case l_flat => k_is)
    (case c_flat => k_is)
    (case k_flat => k_is)
    (case a_pair_of => k_is)
    (case l_pair_of => k_is)
    (case c_pair_of => k_is)
    (case k_pair_of => k_is)
    (case a_joined => k_is)
    (case l_joined => k_is)
    (case c_joined => k_is)
    (case k_joined => k_is)
    (case a_blocks => k_is)
    (case l_blocks => k_is)
    (case c_blocks => k_is)
    (case k_blocks => k_is)
    (case a_near_of => k_is)
    (case l_near_of => k_is)
    (case c_near_of => k_is)
    (case k_near_of => k_is)
    (case a_way_in => k_is)
    (case l_way_in => k_is)
    (case c_way_in => k_is)
    (case k_way_in => k_is)
    (case a_first_ring => k_is)
    (case l_first_ring => k_is)
    (case c_first_ring => k_is)
    (case k_first_ring => k_is)
    (case a_pieces_left => k_is)
    (case l_pieces_left => k_is)
    (case c_pieces_left => k_is)
    (case k_pieces_left => k_is)
    (case a_fields_for => k_is)
    (case l_fields_for => k_is)
    (case c_fields_for => k_is)
    (case k_fields_for => k_is)
    (case a_parted => k_is)
    (case l_parted => k_is)
    (case c_parted => k_is)
    (case k_parted => k_is)
    (case a_chosen => k_is)
    (case l_chosen => k_is)
    (case c_chosen => k_is)
    (case k_chosen => k_is)
    (case a_fields_of => k_is)
    (case l_fields_of => k_is)
    (case c_fields_of => k_is)
    (case k_fields_of => k_is)
    (case a_turns_of => k_is)
    (case l_turns_of => k_is)
    (case c_turns_of => k_is)
    (case k_turns_of => k_is)
    (case a_drawn_block => k_is)
    (case l_drawn_block => k_is)
    (case c_drawn_block => k_is)
    (case k_drawn_block => k_is)
    (case a_drawn => k_is)
    (case l_drawn => k_is)
    (case c_drawn => k_is)
    (case k_drawn => k_is)
    (case a_l_cell_at => k_is)
    (case l_l_cell_at => k_is)
    (case c_l_cell_at => k_is)
    (case k_l_cell_at => k_is)
    (case a_l_many => k_is)
    (case l_l_many => k_is)
    (case c_l_many => k_is)
    (case k_l_many => k_is)
    (case a_l_ties => k_is)
    (case l_l_ties => k_is)
    (case c_l_ties => k_is)
    (case k_l_ties => k_is)
    (case a_l_order_by => k_is)
    (case l_l_order_by => k_is)
    (case c_l_order_by => k_is)
    (case k_l_order_by => k_is)
    (case a_l_turns_by => k_is)
    (case l_l_turns_by => k_is)
    (case c_l_turns_by => k_is)
    (case k_l_turns_by => k_is)
    (case a_l_labels => k_is)
    (case l_l_labels => k_is)
    (case c_l_labels => k_is)
    (case k_l_labels => k_is)
    (case a_l_firsts => k_is)
    (case l_l_firsts => k_is)
    (case c_l_firsts => k_is)
    (case k_l_firsts => k_is)
    (case a_l_is_flat => k_is)
    (case l_l_is_flat => k_is)
    (case c_l_is_flat => k_is)
    (case k_l_is_flat => k_is)
    (case a_l_shaken => k_is)
    (case l_l_shaken => k_is)
    (case c_l_shaken => k_is)
    (case k_l_shaken => k_is)
    (case a_l_stays => k_is)
    (case l_l_stays => k_is)
    (case c_l_stays => k_is)
    (case k_l_stays => k_is)
    (case a_law => k_is)
    (case l_law => k_is)
    (case c_law => k_is)
    (case k_law => k_is)
    (case z_bool => k_is)
    (case z_int => k_is)
    (case z_isinstance => k_is)
    (case z_len => k_is)
    (case z_list => k_is)
    (case z_max => k_is)
    (case z_min => k_is)
    (case z_range => k_is)
    (case z_reversed => k_is)
    (case z_sorted => k_is)
    (case z_sum => k_is)
    (case z_tuple => k_is)
    (case q_MOST_POINTS => k_is)
    (case q_MOST_TIES => k_is)
