import PyProof.Rows.All
import Wide.All
import OpenK.AllK
import Wide.FinOn
import PySem.Challenge.RW_pq0150_01
open PySem PySem.W PyProof.Rows
set_option Elab.async false
set_option maxRecDepth 100000
set_option maxHeartbeats 1000000
set_option autoImplicit false
set_option linter.unusedVariables false
set_option linter.unusedSimpArgs false
set_option genSizeOf false
namespace PQ
/-! ### PA -/
inductive V where
  | none
  | bool (b : Bool)
  | int (i : Int)
  | str (s : Str)
  | tup (xs : List V)
  | ref (n : Nat)
  | glob (a : Addr)
  | ty (n : String)
  | bi (n : String)
  | exc (a : Addr)

structure CloD where
  name : Str
  qual : Str
  params : Arguments
  body : List Stmt
  scope : Scope
  cl : List (Str × Nat)

inductive Ob where
  | list (xs : List V)
  | dictI (es : List (Int × V))
  | dictS (es : List (Str × V))
  | inst (c : Addr) (fs : List (Str × V))
  | cell (v : Option V)
  | clo (d : CloD)

noncomputable abbrev HA := List Ob
noncomputable abbrev LM := List (Str × V)
noncomputable abbrev Rho := List (Addr × Addr)

/-- what the run stands on: the model's data at the law's call -/
structure Bx where
  prog : Program
  w : World
  K : Frag
  h0 : Heap
  mg : Str → Option Value
  mb : Str → Option Value
  p : Program
  loose : List Str
  mean : ExcName → Option Value
  cd : Addr
  P : Addr
  CB : Addr
  tabs : List (Pos × Str)
  X : K.In h0
  T : Top p loose mean mg mb h0
  C : CodeHd h0 cd P
  hP : h0.get? P = none

noncomputable abbrev Bx.M (B : Bx) : Model := model B.prog B.w

/-- an exception object of the text's own class, its traceback (if it has one) in order -/
inductive ExcOk (CB : Bx) (h : Heap) (a : Addr) (fl : Value → Prop) : Prop
  | mk (o : Obj) (vs : Array Value) : h.get? a = some o → o.cls = .ref CB.CB → o.data = .fields vs → CB.h0.get? a = none →
    (vs[1]? = some .none ∨ ∃ T oT ts f x, vs[1]? = some (.ref T) ∧ CB.h0.get? T = none ∧ h.get? T = some oT ∧ oT.cls = .type "traceback" ∧ oT.data = .fields ts ∧
      ts[1]? = some (.ref f) ∧ ts[3]? = some x ∧ fl x) → ExcOk CB h a fl
noncomputable abbrev ExcAny (CB : Bx) (h : Heap) (a : Addr) : Prop := ExcOk CB h a fun _ => True

inductive VR (CB : Bx) (h : Heap) (ρ : Rho) : V → Value → Prop
  | none : VR CB h ρ .none .none
  | bool (b : Bool) : VR CB h ρ (.bool b) (.bool b)
  | int (i : Int) (t : Tok) : VR CB h ρ (.int i) (.int i t)
  | str (s : Str) (t : Tok) : VR CB h ρ (.str s) (.str s t)
  | tup {xs : List V} {vs : List Value} {a : Addr} : IsTup h a vs.toArray → xs.length = vs.length →
      (∀ (i : Nat) (x : V) (v : Value), xs[i]? = some x → vs[i]? = some v → VR CB h ρ x v) → VR CB h ρ (.tup xs) (.ref a)
  | ref {n : Nat} {q : Addr × Addr} : ρ[n]? = some q → VR CB h ρ (.ref n) (.ref q.1)
  | glob (a : Addr) : VR CB h ρ (.glob a) (.ref a)
  | ty (n : String) : VR CB h ρ (.ty n) (.type n)
  | bi (n : String) : VR CB h ρ (.bi n) (.builtin n)
  | exc {a : Addr} : ExcAny CB h a → VR CB h ρ (.exc a) (.ref a)

/-- what stands for an abstract value -/
noncomputable def VRi (CB : Bx) (h : Heap) (ρ : Rho) : V → Value → Prop
  | .none, pv => pv = .none
  | .bool b, pv => pv = .bool b
  | .int i, pv => ∃ t, pv = .int i t
  | .str s, pv => ∃ t, pv = .str s t
  | .tup xs, pv => ∃ (vs : List Value) (a : Addr), pv = .ref a ∧ IsTup h a vs.toArray ∧ xs.length = vs.length ∧ ∀ (i : Nat) (x : V) (v : Value), xs[i]? = some x → vs[i]? = some v → VR CB h ρ x v
  | .ref n, pv => ∃ q : Addr × Addr, pv = .ref q.1 ∧ ρ[n]? = some q
  | .glob a, pv => pv = .ref a
  | .ty n, pv => pv = .type n
  | .bi n, pv => pv = .builtin n
  | .exc a, pv => pv = .ref a ∧ ExcAny CB h a
theorem VR.inv {CB : Bx} {h : Heap} {ρ : Rho} {v : V} {pv : Value} (r : VR CB h ρ v pv) : VRi CB h ρ v pv := by
  cases r
  case none => rfl
  case bool => rfl
  case int => exact ⟨_, rfl⟩
  case str => exact ⟨_, rfl⟩
  case tup h1 h2 h3 => exact ⟨_, _, rfl, h1, h2, h3⟩
  case ref e => exact ⟨_, rfl, e⟩
  case glob => rfl
  case ty => rfl
  case bi => rfl
  case exc e => exact ⟨rfl, e⟩
theorem VR.ref_inv {B : Bx} {h : Heap} {ρ : Rho} {n : Nat} {pv : Value} (r : VR B h ρ (.ref n) pv) : ∃ q, pv = .ref q.1 ∧ ρ[n]? = some q := r.inv
theorem VR.int_inv {B : Bx} {h : Heap} {ρ : Rho} {a : Int} {pv : Value} (r : VR B h ρ (.int a) pv) : ∃ t, pv = .int a t := r.inv
theorem VR.str_inv {B : Bx} {h : Heap} {ρ : Rho} {a : Str} {pv : Value} (r : VR B h ρ (.str a) pv) : ∃ t, pv = .str a t := r.inv
theorem VR.bool_inv {B : Bx} {h : Heap} {ρ : Rho} {a : Bool} {pv : Value} (r : VR B h ρ (.bool a) pv) : pv = .bool a := r.inv
theorem VR.glob_inv {B : Bx} {h : Heap} {ρ : Rho} {a : Addr} {pv : Value} (r : VR B h ρ (.glob a) pv) : pv = .ref a := r.inv
theorem VR.exc_inv {B : Bx} {h : Heap} {ρ : Rho} {a : Addr} {pv : Value} (r : VR B h ρ (.exc a) pv) : pv = .ref a ∧ ExcAny B h a := r.inv
theorem VR.tup_inv {B : Bx} {h : Heap} {ρ : Rho} {xs : List V} {pv : Value} (r : VR B h ρ (.tup xs) pv) : ∃ (vs : List Value) (a : Addr), pv = .ref a ∧ IsTup h a vs.toArray ∧ xs.length = vs.length ∧ ∀ (i : Nat) (x : V) (v : Value), xs[i]? = some x → vs[i]? = some v → VR B h ρ x v := r.inv

noncomputable def VRs (CB : Bx) (h : Heap) (ρ : Rho) : List V → List Value → Prop
  | [], [] => True
  | x :: xs, v :: vs => VR CB h ρ x v ∧ VRs CB h ρ xs vs
  | _, _ => False

theorem VRs.one {CB : Bx} {h : Heap} {ρ : Rho} {x : V} {vs : List Value} (r : VRs CB h ρ [x] vs) : ∃ a, vs = [a] ∧ VR CB h ρ x a := by
  rcases vs with _ | ⟨a, _ | ⟨b, t⟩⟩
  · exact r.elim
  · exact ⟨a, rfl, r.1⟩
  · exact r.2.elim
theorem VRs.two {CB : Bx} {h : Heap} {ρ : Rho} {x y : V} {vs : List Value} (r : VRs CB h ρ [x, y] vs) : ∃ a b, vs = [a, b] ∧ VR CB h ρ x a ∧ VR CB h ρ y b := by
  rcases vs with _ | ⟨a, t⟩
  · exact r.elim
  · obtain ⟨b, rfl, r2⟩ := VRs.one r.2
    exact ⟨a, b, rfl, r.1, r2⟩
theorem len1 {α : Type} {l : List α} (h : l.length = 1) : ∃ a, l = [a] := List.length_eq_one_iff.mp h
theorem len2 {α : Type} {l : List α} (h : l.length = 2) : ∃ a b, l = [a, b] := by
  cases l with
  | nil => cases h
  | cons a t =>
    obtain ⟨b, rfl⟩ := len1 (Nat.succ.inj h)
    exact ⟨a, b, rfl⟩
theorem len3 {α : Type} {l : List α} (h : l.length = 3) : ∃ a b c, l = [a, b, c] := by
  cases l with
  | nil => cases h
  | cons a t =>
    obtain ⟨b, c, rfl⟩ := len2 (Nat.succ.inj h)
    exact ⟨a, b, c, rfl⟩

section VRs
variable {CB : Bx} {h : Heap} {ρ : Rho}
theorem VRs.cons {x : V} {v : Value} {xs : List V} {vs : List Value} (a : VR CB h ρ x v) (b : VRs CB h ρ xs vs) : VRs CB h ρ (x :: xs) (v :: vs) := ⟨a, b⟩
theorem VRs.length : ∀ {xs : List V} {vs : List Value}, VRs CB h ρ xs vs → xs.length = vs.length
  | [], [], _ => rfl
  | _ :: _, _ :: _, r => by simp [VRs.length r.2]
  | [], _ :: _, r => r.elim
  | _ :: _, [], r => r.elim
theorem VRs.get : ∀ {xs : List V} {vs : List Value}, VRs CB h ρ xs vs → ∀ (i : Nat) (x : V) (v : Value), xs[i]? = some x → vs[i]? = some v → VR CB h ρ x v
  | [], _, _, i, _, _, e, _ => by simp at e
  | _ :: _, _ :: _, r, 0, _, _, e, e' => by simp at e e'; subst e e'; exact r.1
  | _ :: _, _ :: _, r, i + 1, _, _, e, e' => by simp at e e'; exact VRs.get r.2 i _ _ e e'
  | _ :: _, [], r, _, _, _, _, _ => r.elim
theorem VRs.of_get : ∀ {xs : List V} {vs : List Value}, xs.length = vs.length → (∀ (i : Nat) (x : V) (v : Value), xs[i]? = some x → vs[i]? = some v → VR CB h ρ x v) → VRs CB h ρ xs vs
  | [], [], _, _ => trivial
  | _ :: _, _ :: _, l, g => ⟨g 0 _ _ rfl rfl, VRs.of_get (by simpa using l) fun i x v e e' => g (i + 1) x v (by simpa using e) (by simpa using e')⟩
  | [], _ :: _, l, _ => by simp at l
  | _ :: _, [], l, _ => by simp at l
theorem VRs.append : ∀ {xs ys : List V} {vs ws : List Value}, VRs CB h ρ xs vs → VRs CB h ρ ys ws → VRs CB h ρ (xs ++ ys) (vs ++ ws)
  | [], _, [], _, _, r => r
  | _ :: _, _, _ :: _, _, l, r => ⟨l.1, VRs.append l.2 r⟩
  | [], _, _ :: _, _, l, _ => l.elim
  | _ :: _, _, [], _, l, _ => l.elim
theorem VRs.exists_get {xs : List V} {vs : List Value} (r : VRs CB h ρ xs vs) {i : Nat} {x : V} (e : xs[i]? = some x) : ∃ v, vs[i]? = some v ∧ VR CB h ρ x v := by
  have hi : i < vs.length := by
    have := (List.getElem?_eq_some_iff.mp e).1
    have := r.length
    lia
  exact ⟨vs[i], List.getElem?_eq_getElem hi, r.get i x _ e (List.getElem?_eq_getElem hi)⟩
theorem VRs.take : ∀ {xs : List V} {vs : List Value} (n : Nat), VRs CB h ρ xs vs → VRs CB h ρ (xs.take n) (vs.take n)
  | [], [], n, _ => by simp [VRs]
  | _ :: _, _ :: _, 0, _ => trivial
  | _ :: _, _ :: _, n + 1, r => ⟨r.1, VRs.take n r.2⟩
  | [], _ :: _, _, r => r.elim
  | _ :: _, [], _, r => r.elim
theorem VRs.drop : ∀ {xs : List V} {vs : List Value} (n : Nat), VRs CB h ρ xs vs → VRs CB h ρ (xs.drop n) (vs.drop n)
  | [], [], n, _ => by simp [VRs]
  | _ :: _, _ :: _, 0, r => r
  | _ :: _, _ :: _, n + 1, r => VRs.drop n r.2
  | [], _ :: _, _, r => r.elim
  | _ :: _, [], _, r => r.elim
theorem VRs.reverse {xs : List V} {vs : List Value} (r : VRs CB h ρ xs vs) : VRs CB h ρ xs.reverse vs.reverse := by
  have hl := r.length
  refine VRs.of_get (by simpa using hl) fun i x v e e' => ?_
  have hi := (List.getElem?_eq_some_iff.mp e).1
  rw [List.length_reverse] at hi
  rw [List.getElem?_reverse hi] at e
  rw [List.getElem?_reverse (by lia)] at e'
  exact r.get _ x v e (by rw [← hl] at e'; exact e')
theorem VRs.set : ∀ {xs : List V} {vs : List Value} (i : Nat) {x : V} {v : Value}, VRs CB h ρ xs vs → VR CB h ρ x v → VRs CB h ρ (xs.set i x) (vs.set i v)
  | [], [], _, _, _, _, _ => by simp [VRs]
  | _ :: _, _ :: _, 0, _, _, r, q => ⟨q, r.2⟩
  | _ :: _, _ :: _, i + 1, _, _, r, q => ⟨r.1, VRs.set i r.2 q⟩
  | [], _ :: _, _, _, _, r, _ => r.elim
  | _ :: _, [], _, _, _, r, _ => r.elim
end VRs

/-- names to addresses: cells of a frame or of a closure -/
noncomputable def CellsR (ρ : Rho) (cl : List (Str × Nat)) (cl' : List (Str × Addr)) : Prop :=
  ∀ x n, cl.lookup x = some n → ∃ q, ρ[n]? = some q ∧ cl'.lookup x = some q.1

/-- the dict of an object -/
noncomputable def FldR (CB : Bx) (h : Heap) (ρ : Rho) : List (Str × V) → List DictEntry → Prop
  | [], [] => True
  | (x, v) :: fs, e :: es => (∃ t, e.key = .str x t) ∧ VR CB h ρ v e.val ∧ FldR CB h ρ fs es
  | _, _ => False

/-- keys and values of a dict of the text's -/
noncomputable def DctR (CB : Bx) (h : Heap) (ρ : Rho) {K : Type} : List (K × V) → List (K × Value) → Prop
  | [], [] => True
  | (k, v) :: es, (k', pv) :: kvs => k = k' ∧ VR CB h ρ v pv ∧ DctR CB h ρ es kvs
  | _, _ => False

noncomputable def OR (B : Bx) (h : Heap) (ρ : Rho) : Ob → Addr × Addr → Prop
  | .list xs, q => q.2 = q.1 ∧ ∃ (vs : List Value) (n : Nat), IsL h q.1 vs.toArray n ∧ VRs B h ρ xs vs
  | .dictI es, q => q.2 = q.1 ∧ ∃ kvs, h.DictOf (intKind B.prog B.w) q.1 kvs ∧ DctR B h ρ es kvs
  | .dictS es, q => q.2 = q.1 ∧ ∃ kvs, h.DictOf (PySem.strKind B.prog B.w) q.1 kvs ∧ DctR B h ρ es kvs
  | .inst c fs, q => q.1 ≠ q.2 ∧ h.get? q.1 = some (instObj c q.2) ∧ ∃ es n, h.get? q.2 = some (dictOf es n) ∧ FldR B h ρ fs es
  | .cell v, q => q.2 = q.1 ∧ (match v with
      | none => h.IsCell q.1 none
      | some x => ∃ pv, h.IsCell q.1 (some pv) ∧ VR B h ρ x pv)
  | .clo d, q => q.2 = q.1 ∧ ∃ clos doc pm c' ctv, h.get? q.1 = some (fnMade d.name d.qual d.params d.body d.scope clos doc pm c' ctv) ∧ h.CodeRec (.ref c') d.qual ∧ CellsR ρ d.cl clos

noncomputable def TabOk (B : Bx) (h : Heap) : Prop :=
  ∃ ps, h.get? B.P = some (tabObj ps) ∧ TriplesOk ps.toList ∧ ∀ pq ∈ B.tabs, codeAmong pq.1 ps.toList = none ∨ ∃ c', codeAmong pq.1 ps.toList = some (.ref c') ∧ h.CodeRec (.ref c') pq.2

/-- an address that bears none of the abstract heap's objects -/
noncomputable def Off (ρ : Rho) (a : Addr) : Prop := ∀ q ∈ ρ, a ≠ q.1 ∧ a ≠ q.2

structure St (B : Bx) (ρ : Rho) (H : HA) (h : Heap) : Prop where
  base : ∀ a o, B.h0.get? a = some o → h.get? a = some o
  tab : TabOk B h
  len : ρ.length = H.length
  lo : ∀ q ∈ ρ, B.h0.get? q.1 = none ∧ B.h0.get? q.2 = none ∧ 2 < q.1
  apart : ρ.Pairwise fun p q => p.1 ≠ q.1 ∧ p.1 ≠ q.2 ∧ p.2 ≠ q.1 ∧ p.2 ≠ q.2
  rel : ∀ (n : Nat) (q : Addr × Addr) (ob : Ob), ρ[n]? = some q → H[n]? = some ob → OR B h ρ ob q

/-- what a step may do to the heap: the abstract heap's objects (rho), the frame Lx, exceptions and tracebacks, the code table -/
structure Step (B : Bx) (Lx : Option Addr) (ρ : Rho) (s : Shared) (ρ' : Rho) (s' : Shared) : Prop where
  pre : ∃ t, ρ' = ρ ++ t ∧ ∀ q ∈ t, s.heap.get? q.1 = none ∧ s.heap.get? q.2 = none
  live : ∀ a o, s.heap.get? a = some o → ∃ o', s'.heap.get? a = some o'
  keepN : ∀ a o, s.heap.get? a = some o → Off ρ a → some a ≠ Lx → (∀ vs, o.data ≠ .fields vs) → ∃ sl, s'.heap.get? a = some { o with slots := sl }
  keepL : ∀ a o, s.heap.get? a = some o → some a = Lx → (∀ vs, o.data ≠ .fields vs) → ∃ o', s'.heap.get? a = some o' ∧ ∀ vs, o'.data ≠ .fields vs
  keepF : ∀ a o, s.heap.get? a = some o → Off ρ a → a ≠ B.P → (∃ vs, o.data = .fields vs) → o.cls ≠ .type "traceback" → o.cls ≠ .ref B.CB → s'.heap.get? a = some o
  code : ∀ c q, s.heap.CodeRec c q → s'.heap.CodeRec c q
  exc : ∀ a, ExcAny B s.heap a → ExcAny B s'.heap a
  gens : s'.gens = s.gens
  os : s'.os = s.os

theorem Off.mono {ρ t : Rho} {a : Addr} {h : Heap} {ob : Obj} (o : Off ρ a) (ha : h.get? a = some ob) (ht : ∀ q ∈ t, h.get? q.1 = none ∧ h.get? q.2 = none) : Off (ρ ++ t) a := by
  intro q hq
  rcases List.mem_append.mp hq with hq | hq
  · exact o q hq
  · have h1 := ht q hq
    refine ⟨fun e => ?_, fun e => ?_⟩
    · subst e; rw [h1.1] at ha; cases ha
    · subst e; rw [h1.2] at ha; cases ha
theorem dead_of {h h' : Heap} (live : ∀ a o, h.get? a = some o → ∃ o', h'.get? a = some o') {a : Addr} (e : h'.get? a = none) : h.get? a = none := by
  cases q : h.get? a with
  | none => rfl
  | some o => obtain ⟨o', e'⟩ := live a o q; rw [e] at e'; cases e'

section Step
variable {B : Bx} {Lx : Option Addr} {ρ ρ₁ ρ₂ : Rho} {s s₁ s₂ : Shared}
theorem Step.refl : Step B Lx ρ s ρ s where
  pre := ⟨[], by simp, by simp⟩
  live := fun a o e => ⟨o, e⟩
  keepN := fun a o e _ _ _ => ⟨o.slots, e⟩
  keepL := fun a o e _ h => ⟨o, e, h⟩
  keepF := fun _ _ e _ _ _ _ _ => e
  code := fun _ _ x => x
  exc := fun _ x => x
  gens := rfl
  os := rfl
theorem Step.trans (x : Step B Lx ρ s ρ₁ s₁) (y : Step B Lx ρ₁ s₁ ρ₂ s₂) : Step B Lx ρ s ρ₂ s₂ := by
  obtain ⟨t, rfl, ht⟩ := x.pre
  obtain ⟨u, rfl, hu⟩ := y.pre
  refine ⟨⟨t ++ u, by simp, fun q hq => ?_⟩, fun a o e => (x.live a o e).elim fun o' e' => y.live a o' e', fun a o e f n d => ?_, fun a o e q d => ?_, fun a o e f p d c1 c2 => ?_, fun c q z => y.code _ _ (x.code _ _ z), fun a z => y.exc _ (x.exc _ z), y.gens.trans x.gens, y.os.trans x.os⟩
  · rcases List.mem_append.mp hq with hq | hq
    · exact ht q hq
    · have h1 := hu q hq
      exact ⟨dead_of x.live h1.1, dead_of x.live h1.2⟩
  · obtain ⟨sl, e1⟩ := x.keepN a o e f n d
    obtain ⟨sl', e2⟩ := y.keepN a _ e1 (f.mono e ht) n d
    exact ⟨sl', e2⟩
  · obtain ⟨o', e1, d1⟩ := x.keepL a o e q d
    exact y.keepL a o' e1 q d1
  · exact y.keepF a o (x.keepF a o e f p d c1 c2) (f.mono e ht) p d c1 c2
theorem Step.atL (x : Step B none ρ s ρ₁ s₁) {L : Addr} (o : Off ρ L) : Step B (some L) ρ s ρ₁ s₁ where
  pre := x.pre
  live := x.live
  keepN := fun a _ e f _ d => x.keepN a _ e f (by simp) d
  keepL := fun a _ e q d => by
    cases q
    obtain ⟨sl, e1⟩ := x.keepN _ _ e o (by simp) d
    exact ⟨_, e1, d⟩
  keepF := x.keepF
  code := x.code
  exc := x.exc
  gens := x.gens
  os := x.os
end Step

section mono
variable {B : Bx} {Lx : Option Addr} {ρ ρ' : Rho} {H : HA} {s s' : Shared} {h h' : Heap}

noncomputable def Odd (o : Obj) : Prop := (∃ vs, o.data = .fields vs) ∨ (o.cls = .type "tuple" ∧ ∃ xs n, o.data = .seq xs n)

theorem OR.plain {ob : Ob} {q : Addr × Addr} (r : OR B h ρ ob q) : (∃ o, h.get? q.1 = some o ∧ ¬ Odd o) ∧ (∃ o, h.get? q.2 = some o ∧ ¬ Odd o) := by
  obtain ⟨a, d⟩ := q
  cases ob with
  | list xs =>
    obtain ⟨e, vs, n, ho, _⟩ := r
    cases e
    have : ¬ Odd { cls := .type "list", dict := none, data := .seq vs.toArray n, slots := #[] } := by rintro (⟨_, q⟩ | ⟨q, _⟩) <;> simp_all
    exact ⟨⟨_, ho, this⟩, ⟨_, ho, this⟩⟩
  | dictI es =>
    obtain ⟨e, kvs, ⟨o, es, ep, ho, _, hd, _⟩, _⟩ := r
    cases e
    have : ¬ Odd o := by rintro (⟨_, q⟩ | ⟨_, _, _, q⟩) <;> simp_all
    exact ⟨⟨o, ho, this⟩, ⟨o, ho, this⟩⟩
  | dictS es =>
    obtain ⟨e, kvs, ⟨o, es, ep, ho, _, hd, _⟩, _⟩ := r
    cases e
    have : ¬ Odd o := by rintro (⟨_, q⟩ | ⟨_, _, _, q⟩) <;> simp_all
    exact ⟨⟨o, ho, this⟩, ⟨o, ho, this⟩⟩
  | inst c fs =>
    obtain ⟨_, h1, es, n, h2, _⟩ := r
    exact ⟨⟨_, h1, by rintro (⟨_, q⟩ | ⟨_, _, _, q⟩) <;> cases q⟩, ⟨_, h2, by rintro (⟨_, q⟩ | ⟨_, _, _, q⟩) <;> cases q⟩⟩
  | cell v =>
    obtain ⟨e, r⟩ := r
    cases e
    have : ∃ x, h.IsCell a x := by
      cases v with
      | none => exact ⟨_, r⟩
      | some x => exact ⟨_, r.choose_spec.1⟩
    obtain ⟨x, o, ho, hd⟩ := this
    have : ¬ Odd o := by rintro (⟨_, q⟩ | ⟨_, _, _, q⟩) <;> simp_all
    exact ⟨⟨o, ho, this⟩, ⟨o, ho, this⟩⟩
  | clo d =>
    obtain ⟨e, clos, doc, pm, c', ctv, h1, _⟩ := r
    cases e
    exact ⟨⟨_, h1, by rintro (⟨_, q⟩ | ⟨_, _, _, q⟩) <;> cases q⟩, ⟨_, h1, by rintro (⟨_, q⟩ | ⟨_, _, _, q⟩) <;> cases q⟩⟩

theorem St.at {n : Nat} {q : Addr × Addr} (st : St B ρ H h) (e : ρ[n]? = some q) : ∃ ob, H[n]? = some ob ∧ OR B h ρ ob q := by
  have hn : n < H.length := by rw [← st.len]; exact (List.getElem?_eq_some_iff.mp e).1
  exact ⟨H[n], List.getElem?_eq_getElem hn, st.rel n q _ e (List.getElem?_eq_getElem hn)⟩
theorem St.addr {n : Nat} {ob : Ob} (st : St B ρ H h) (e : H[n]? = some ob) : ∃ q, ρ[n]? = some q ∧ OR B h ρ ob q := by
  have hn : n < ρ.length := by rw [st.len]; exact (List.getElem?_eq_some_iff.mp e).1
  exact ⟨ρ[n], List.getElem?_eq_getElem hn, st.rel n _ ob (List.getElem?_eq_getElem hn) e⟩

theorem St.ref {n : Nat} {q : Addr × Addr} {ob : Ob} (st : St B ρ H h) (hn : H[n]? = some ob) (e : ρ[n]? = some q) : OR B h ρ ob q := st.rel n q ob e hn
theorem St.off {a : Addr} {o : Obj} (st : St B ρ H h) (e : h.get? a = some o) (od : Odd o) : Off ρ a := by
  intro q hq
  obtain ⟨n, hn⟩ := List.mem_iff_getElem?.mp hq
  obtain ⟨ob, _, r⟩ := st.at hn
  obtain ⟨⟨o1, e1, p1⟩, ⟨o2, e2, p2⟩⟩ := r.plain
  refine ⟨fun z => ?_, fun z => ?_⟩
  · subst z; rw [e] at e1; cases e1; exact p1 od
  · subst z; rw [e] at e2; cases e2; exact p2 od

theorem Step.grow (x : Step B Lx ρ s ρ' s') {n : Nat} {q : Addr × Addr} (e : ρ[n]? = some q) : ρ'[n]? = some q := by
  obtain ⟨t, rfl, _⟩ := x.pre
  rw [List.getElem?_append_left (List.getElem?_eq_some_iff.mp e).1]; exact e

/-- what the frame Lx is: a dict of names -/
noncomputable def LxOk (Lx : Option Addr) (h : Heap) : Prop := ∀ L, Lx = some L → ∃ m, h.Ns L m
theorem LxOk.none {h : Heap} : LxOk none h := fun _ e => nomatch e

theorem VR.mono (st : St B ρ H s.heap) (hL : LxOk Lx s.heap) (x : Step B Lx ρ s ρ' s') {v : V} {pv : Value} (r : VR B s.heap ρ v pv) : VR B s'.heap ρ' v pv := by
  induction r with
  | none => exact .none
  | bool b => exact .bool b
  | int i t => exact .int i t
  | str s t => exact .str s t
  | tup ht hl _ ih =>
    obtain ⟨o, ho, hc, n, hd⟩ := ht
    have off := st.off ho (.inr ⟨hc, _, _, hd⟩)
    have nf : ∀ vs, o.data ≠ .fields vs := fun vs q => by rw [hd] at q; cases q
    obtain ⟨sl, e'⟩ := x.keepN _ o ho off (fun q => by
      obtain ⟨m, o', es, ep, ho', hd', _⟩ := hL _ q.symm
      rw [ho] at ho'; cases ho'; rw [hd] at hd'; cases hd') nf
    exact .tup ⟨_, e', hc, n, hd⟩ hl fun i x v e e' => ih i x v e e'
  | ref e => exact .ref (x.grow e)
  | glob a => exact .glob a
  | ty n => exact .ty n
  | bi n => exact .bi n
  | exc e => exact .exc (x.exc _ e)
theorem VRs.mono (st : St B ρ H s.heap) (hL : LxOk Lx s.heap) (x : Step B Lx ρ s ρ' s') : ∀ {xs : List V} {vs : List Value}, VRs B s.heap ρ xs vs → VRs B s'.heap ρ' xs vs
  | [], [], _ => trivial
  | _ :: _, _ :: _, r => ⟨r.1.mono st hL x, VRs.mono st hL x r.2⟩
  | [], _ :: _, r => r.elim
  | _ :: _, [], r => r.elim
theorem CellsR.mono (x : Step B Lx ρ s ρ' s') {cl : List (Str × Nat)} {cl' : List (Str × Addr)} (r : CellsR ρ cl cl') : CellsR ρ' cl cl' := fun y n e => by
  obtain ⟨q, h1, h2⟩ := r y n e
  exact ⟨q, x.grow h1, h2⟩

theorem VRs.imp {CB : Bx} (v : ∀ x pv, VR CB h ρ x pv → VR CB h' ρ' x pv) : ∀ {xs : List V} {vs : List Value}, VRs CB h ρ xs vs → VRs CB h' ρ' xs vs
  | [], [], _ => trivial
  | _ :: _, _ :: _, r => ⟨v _ _ r.1, VRs.imp v r.2⟩
  | [], _ :: _, r => r.elim
  | _ :: _, [], r => r.elim
theorem FldR.imp {CB : Bx} (v : ∀ x pv, VR CB h ρ x pv → VR CB h' ρ' x pv) : ∀ {fs : List (Str × V)} {es : List DictEntry}, FldR CB h ρ fs es → FldR CB h' ρ' fs es
  | [], [], _ => trivial
  | (_, _) :: _, _ :: _, r => ⟨r.1, v _ _ r.2.1, FldR.imp v r.2.2⟩
  | [], _ :: _, r => r.elim
  | (_, _) :: _, [], r => r.elim
theorem DctR.imp {CB : Bx} {K : Type} (v : ∀ x pv, VR CB h ρ x pv → VR CB h' ρ' x pv) : ∀ {es : List (K × V)} {kvs : List (K × Value)}, DctR CB h ρ es kvs → DctR CB h' ρ' es kvs
  | [], [], _ => trivial
  | (_, _) :: _, (_, _) :: _, r => ⟨r.1, v _ _ r.2.1, DctR.imp v r.2.2⟩
  | [], _ :: _, r => r.elim
  | (_, _) :: _, [], r => r.elim

theorem OR.imp {ob : Ob} {q : Addr × Addr} (e1 : ∀ o, h.get? q.1 = some o → h'.get? q.1 = some o) (e2 : ∀ o, h.get? q.2 = some o → h'.get? q.2 = some o)
    (v : ∀ x pv, VR B h ρ x pv → VR B h' ρ' x pv) (c : ∀ c q, h.CodeRec c q → h'.CodeRec c q) (g : ∀ (n : Nat) (q : Addr × Addr), ρ[n]? = some q → ρ'[n]? = some q)
    (r : OR B h ρ ob q) : OR B h' ρ' ob q := by
  obtain ⟨a, d⟩ := q
  cases ob with
  | list xs =>
    obtain ⟨e, vs, n, ho, hv⟩ := r
    exact ⟨e, vs, n, e1 _ ho, hv.imp v⟩
  | dictI es =>
    obtain ⟨e, kvs, ⟨o, es, ep, ho, z⟩, hv⟩ := r
    exact ⟨e, kvs, ⟨o, es, ep, e1 _ ho, z⟩, hv.imp v⟩
  | dictS es =>
    obtain ⟨e, kvs, ⟨o, es, ep, ho, z⟩, hv⟩ := r
    exact ⟨e, kvs, ⟨o, es, ep, e1 _ ho, z⟩, hv.imp v⟩
  | inst c fs =>
    obtain ⟨ne, h1, es, n, h2, hf⟩ := r
    exact ⟨ne, e1 _ h1, es, n, e2 _ h2, hf.imp v⟩
  | cell x =>
    obtain ⟨e, r⟩ := r
    refine ⟨e, ?_⟩
    cases x with
    | none => obtain ⟨o, ho, hd⟩ := r; exact ⟨o, e1 _ ho, hd⟩
    | some x => obtain ⟨pv, ⟨o, ho, hd⟩, hv⟩ := r; exact ⟨pv, ⟨o, e1 _ ho, hd⟩, v _ _ hv⟩
  | clo d =>
    obtain ⟨e, clos, doc, pm, c', ctv, h1, hc, hr⟩ := r
    exact ⟨e, clos, doc, pm, c', ctv, e1 _ h1, c _ _ hc, fun y n e => by
      obtain ⟨q, z1, z2⟩ := hr y n e
      exact ⟨q, g _ _ z1, z2⟩⟩
end mono

/-! ### building steps -/
section build
variable {B : Bx} {ρ : Rho} {H : HA} {s s' : Shared}

theorem exc_keep {CB : Bx} {h h' : Heap} (k : ∀ b o vs, h.get? b = some o → o.data = .fields vs → h'.get? b = some o) {a : Addr} {fl : Value → Prop} (x : ExcOk CB h a fl) : ExcOk CB h' a fl := by
  obtain ⟨o, vs, h1, h2, h3, h0, h4⟩ := x
  refine ⟨o, vs, k _ _ _ h1 h3, h2, h3, h0, h4.imp id ?_⟩
  rintro ⟨T, oT, ts, f, x, g1, g0, g2, g3, g4, g⟩
  exact ⟨T, oT, ts, f, x, g1, g0, k _ _ _ g2 g4, g3, g4, g⟩
theorem code_keep {h h' : Heap} (k : ∀ b o vs, h.get? b = some o → o.data = .fields vs → h'.get? b = some o) {c : Value} {q : Str} (x : h.CodeRec c q) : h'.CodeRec c q := by
  obtain ⟨c, o, vs, t, e, h1, h2, h3⟩ := x
  exact ⟨c, o, vs, t, e, k _ _ _ h1 h2, h2, h3⟩

/-- nothing but new objects that the abstract heap does not know -/
theorem Step.ext (k : ∀ b o, s.heap.get? b = some o → s'.heap.get? b = some o) (hg : s'.gens = s.gens) (ho : s'.os = s.os) : Step B none ρ s ρ s' where
  pre := ⟨[], by simp, by simp⟩
  live := fun a o e => ⟨o, k a o e⟩
  keepN := fun a o e _ _ _ => ⟨o.slots, k a o e⟩
  keepL := fun a o e _ h => ⟨o, k a o e, h⟩
  keepF := fun a o e _ _ _ _ _ => k a o e
  code := fun _ _ x => code_keep (fun b o _ e _ => k b o e) x
  exc := fun _ x => exc_keep (fun b o _ e _ => k b o e) x
  gens := hg
  os := ho
theorem TabOk.keep {h h' : Heap} (x : TabOk B h) (k : ∀ b o vs, h.get? b = some o → o.data = .fields vs → h'.get? b = some o) : TabOk B h' := by
  obtain ⟨ps, h1, h2, h3⟩ := x
  refine ⟨ps, k _ _ _ h1 rfl, h2, fun pq hp => (h3 pq hp).imp id ?_⟩
  rintro ⟨c', z1, z2⟩
  exact ⟨c', z1, code_keep k z2⟩
theorem St.ext (st : St B ρ H s.heap) (k : ∀ b o, s.heap.get? b = some o → s'.heap.get? b = some o) (hg : s'.gens = s.gens) (ho : s'.os = s.os) : St B ρ H s'.heap where
  base := fun a o e => k _ _ (st.base a o e)
  tab := st.tab.keep fun b o _ e _ => k b o e
  len := st.len
  lo := st.lo
  apart := st.apart
  rel := fun n q ob e1 e2 => (st.rel n q ob e1 e2).imp (fun o e => k _ o e) (fun o e => k _ o e) (fun _ _ r => r.mono st .none (Step.ext k hg ho)) (fun _ _ x => code_keep (fun b o _ e _ => k b o e) x) fun _ _ e => e

/-- a new object of the abstract heap -/
theorem Step.new {q : Addr × Addr} (k : ∀ b o, s.heap.get? b = some o → s'.heap.get? b = some o) (hg : s'.gens = s.gens) (ho : s'.os = s.os)
    (hq : s.heap.objs.size ≤ q.1 ∧ s.heap.objs.size ≤ q.2) : Step B none ρ s (ρ ++ [q]) s' where
  pre := ⟨[q], rfl, fun p hp => by cases List.mem_singleton.mp hp; exact ⟨Heap.get?_none_of_le hq.1, Heap.get?_none_of_le hq.2⟩⟩
  live := fun a o e => ⟨o, k a o e⟩
  keepN := fun a o e _ _ _ => ⟨o.slots, k a o e⟩
  keepL := fun a o e _ h => ⟨o, k a o e, h⟩
  keepF := fun a o e _ _ _ _ _ => k a o e
  code := fun _ _ x => code_keep (fun b o _ e _ => k b o e) x
  exc := fun _ x => exc_keep (fun b o _ e _ => k b o e) x
  gens := hg
  os := ho
theorem St.lt (st : St B ρ H s.heap) : ∀ q ∈ ρ, q.1 < s.heap.objs.size ∧ q.2 < s.heap.objs.size := fun q hq => by
  obtain ⟨n, hn⟩ := List.mem_iff_getElem?.mp hq
  obtain ⟨ob, _, r⟩ := st.at hn
  obtain ⟨⟨o1, e1, _⟩, ⟨o2, e2, _⟩⟩ := r.plain
  exact ⟨Heap.lt_size e1, Heap.lt_size e2⟩
theorem St.big (st : St B ρ H s.heap) : 2 < s.heap.objs.size := by
  obtain ⟨mc, ⟨o, es, ep, e, _⟩, _⟩ := B.T.nolimit
  exact Heap.lt_size (st.base _ _ e)
theorem St.new {q : Addr × Addr} {ob : Ob} (st : St B ρ H s.heap) (k : ∀ b o, s.heap.get? b = some o → s'.heap.get? b = some o) (hg : s'.gens = s.gens) (ho : s'.os = s.os)
    (hq : s.heap.objs.size ≤ q.1 ∧ s.heap.objs.size ≤ q.2) (r : OR B s'.heap (ρ ++ [q]) ob q) : St B (ρ ++ [q]) (H ++ [ob]) s'.heap where
  base := fun a o e => k _ _ (st.base a o e)
  tab := st.tab.keep fun b o _ e _ => k b o e
  len := by simp [st.len]
  lo := fun p hp => by
    rcases List.mem_append.mp hp with hp | hp
    · exact st.lo p hp
    · cases List.mem_singleton.mp hp
      exact ⟨dead_of (fun a o e => ⟨o, st.base a o e⟩) (Heap.get?_none_of_le hq.1), dead_of (fun a o e => ⟨o, st.base a o e⟩) (Heap.get?_none_of_le hq.2), Nat.lt_of_lt_of_le st.big hq.1⟩
  apart := by
    rw [List.pairwise_append]
    refine ⟨st.apart, List.pairwise_singleton _ _, fun a ha b hb => ?_⟩
    cases List.mem_singleton.mp hb
    have h1 := st.lt a ha
    exact ⟨Nat.ne_of_lt (Nat.lt_of_lt_of_le h1.1 hq.1), Nat.ne_of_lt (Nat.lt_of_lt_of_le h1.1 hq.2), Nat.ne_of_lt (Nat.lt_of_lt_of_le h1.2 hq.1), Nat.ne_of_lt (Nat.lt_of_lt_of_le h1.2 hq.2)⟩
  rel := fun n p ob' e1 e2 => by
    by_cases hn : n < ρ.length
    · rw [List.getElem?_append_left hn] at e1
      rw [List.getElem?_append_left (by rw [← st.len]; exact hn)] at e2
      exact (st.rel n p ob' e1 e2).imp (fun o e => k _ o e) (fun o e => k _ o e) (fun _ _ r => r.mono st .none (Step.new k hg ho hq)) (fun _ _ x => code_keep (fun b o _ e _ => k b o e) x)
        fun m q' e => (Step.new (B := B) (ρ := ρ) k hg ho hq).grow e
    · have h1 := (List.getElem?_eq_some_iff.mp e1).1
      have : n = ρ.length := by simp at h1; lia
      subst this
      rw [List.getElem?_concat_length] at e1
      rw [st.len, List.getElem?_concat_length] at e2
      cases e1; cases e2; exact r

/-- an object of the abstract heap changes -/
theorem Step.upd {n : Nat} {q : Addr × Addr} (st : St B ρ H s.heap) (hn : ρ[n]? = some q) (k : ∀ b o, s.heap.get? b = some o → b ≠ q.1 → b ≠ q.2 → s'.heap.get? b = some o)
    (lv : ∀ b, b = q.1 ∨ b = q.2 → ∃ o, s'.heap.get? b = some o) (hg : s'.gens = s.gens) (ho : s'.os = s.os) : Step B none ρ s ρ s' := by
  have hq : q ∈ ρ := List.mem_of_getElem? hn
  obtain ⟨ob, _, r⟩ := st.at hn
  obtain ⟨⟨o1, e1, p1⟩, ⟨o2, e2, p2⟩⟩ := r.plain
  have kf : ∀ b o vs, s.heap.get? b = some o → o.data = .fields vs → s'.heap.get? b = some o := fun b o vs e hd =>
    k b o e (fun z => by subst z; rw [e] at e1; cases e1; exact p1 (.inl ⟨_, hd⟩)) (fun z => by subst z; rw [e] at e2; cases e2; exact p2 (.inl ⟨_, hd⟩))
  exact {
    pre := ⟨[], by simp, by simp⟩
    live := fun a o e => by
      by_cases h1 : a = q.1
      · exact lv a (.inl h1)
      · by_cases h2 : a = q.2
        · exact lv a (.inr h2)
        · exact ⟨o, k a o e h1 h2⟩
    keepN := fun a o e f _ _ => ⟨o.slots, k a o e (f q hq).1 (f q hq).2⟩
    keepL := fun _ _ _ z _ => nomatch z
    keepF := fun a o e f _ _ _ _ => k a o e (f q hq).1 (f q hq).2
    code := fun _ _ x => code_keep kf x
    exc := fun _ x => exc_keep kf x
    gens := hg
    os := ho }
theorem lv_one {h' : Heap} {q : Addr × Addr} {o : Obj} (hq : q.2 = q.1) (e : h'.get? q.1 = some o) : ∀ b, b = q.1 ∨ b = q.2 → ∃ o, h'.get? b = some o := fun b h => by
  rcases h with rfl | rfl
  · exact ⟨o, e⟩
  · rw [hq]; exact ⟨o, e⟩
theorem lv_upd {h : Heap} {q : Addr × Addr} {o : Obj} {f : Obj → Obj} (hq : q.2 = q.1) (e : h.get? q.1 = some o) (hf : (f o).isFreed = false) : ∀ b, b = q.1 ∨ b = q.2 → ∃ o, (h.update q.1 f).get? b = some o :=
  lv_one hq (Heap.get?_update_self _ e hf)
theorem St.upd {n : Nat} {q : Addr × Addr} {ob : Ob} (st : St B ρ H s.heap) (hn : ρ[n]? = some q) (k : ∀ b o, s.heap.get? b = some o → b ≠ q.1 → b ≠ q.2 → s'.heap.get? b = some o)
    (hg : s'.gens = s.gens) (ho : s'.os = s.os) (r : OR B s'.heap ρ ob q) : St B ρ (H.set n ob) s'.heap := by
  have hq : q ∈ ρ := List.mem_of_getElem? hn
  have lv : ∀ b, b = q.1 ∨ b = q.2 → ∃ o, s'.heap.get? b = some o := fun b h => by
    obtain ⟨⟨o1, e1, _⟩, ⟨o2, e2, _⟩⟩ := r.plain
    rcases h with rfl | rfl
    · exact ⟨o1, e1⟩
    · exact ⟨o2, e2⟩
  have stp := Step.upd st hn k lv hg ho
  obtain ⟨ob0, _, r0⟩ := st.at hn
  obtain ⟨⟨o1, e1, p1⟩, ⟨o2, e2, p2⟩⟩ := r0.plain
  have kf : ∀ b o vs, s.heap.get? b = some o → o.data = .fields vs → s'.heap.get? b = some o := fun b o vs e hd =>
    k b o e (fun z => by subst z; rw [e] at e1; cases e1; exact p1 (.inl ⟨_, hd⟩)) (fun z => by subst z; rw [e] at e2; cases e2; exact p2 (.inl ⟨_, hd⟩))
  have hlo := st.lo q hq
  exact {
    base := fun a o e => k _ _ (st.base a o e) (fun z => by rw [z, hlo.1] at e; cases e) (fun z => by rw [z, hlo.2.1] at e; cases e)
    tab := st.tab.keep kf
    len := by simp [st.len]
    lo := st.lo
    apart := st.apart
    rel := fun m p ob' h1 h2 => by
      by_cases hm : m = n
      · subst hm
        rw [hn] at h1; cases h1
        rw [List.getElem?_set_self (by rw [← st.len]; exact (List.getElem?_eq_some_iff.mp hn).1)] at h2
        cases h2; exact r
      · rw [List.getElem?_set_ne (Ne.symm hm)] at h2
        have ap : p.1 ≠ q.1 ∧ p.1 ≠ q.2 ∧ p.2 ≠ q.1 ∧ p.2 ≠ q.2 := by
          have pw := List.pairwise_iff_getElem.mp st.apart
          obtain ⟨im, em⟩ := List.getElem?_eq_some_iff.mp h1
          obtain ⟨iN, en⟩ := List.getElem?_eq_some_iff.mp hn
          rcases Nat.lt_or_gt_of_ne hm with l | l
          · have := pw m n im iN l; rw [em, en] at this; exact this
          · have := pw n m iN im l
            rw [em, en] at this
            exact ⟨this.1.symm, this.2.2.1.symm, this.2.1.symm, this.2.2.2.symm⟩
        exact (st.rel m p ob' h1 h2).imp (fun o e => k _ o e ap.1 ap.2.1) (fun o e => k _ o e ap.2.2.1 ap.2.2.2) (fun _ _ r => r.mono st .none stp) (fun _ _ x => code_keep kf x) fun _ _ e => e }
end build
/-! ### PB -/
structure Cx where
  B : Bx
  hv : Option Value
  d : Nat

structure FrA where
  cn : Str
  cs : Scope
  a : Addr
  ccd : Value
  cl : List (Str × Nat)
  real : Bool

inductive FrOk (B : Bx) (ρ : Rho) (h : Heap) (env : Env) : Prop
  | mk (kd : env.scope.kind = .function) (L : Addr) (o : Obj) : env.frame = some L → B.h0.get? L = none → h.get? L = some o → (∀ vs, o.data ≠ .fields vs) → Off ρ L → FrOk B ρ h env

structure AOk (c : Cx) (A : Around) (ρ : Rho) (h : Heap) : Prop where
  hd : A.handled = c.hv
  dep : A.depth + 8 * c.d ≤ 900
  uni : A.units + 60 * c.d ≤ 9000
  fr : ∃ l, A.frames = some l ∧ ∀ e ∈ l, FrOk c.B ρ h e

structure EnvOk (fa : FrA) (ρ : Rho) (L : Addr) (A : Around) (env : Env) : Prop where
  sc : env.scope = fa.cs
  kind : fa.cs.kind = .function
  loc : env.locals = L
  glob : env.globals = mainGlobals
  blt : env.builtins = builtinsNs
  code : env.code = fa.ccd
  cells : CellsR ρ fa.cl env.cells
  top : ∃ e l, A.frames = some (e :: l) ∧ e.frame = env.frame
  real : fa.real = true → env = envX fa.cn fa.cs L fa.a fa.ccd env.cells ∧ ∃ l, A.frames = some (env :: l)

structure Loc (B : Bx) (L : Addr) (m : LM) (ρ : Rho) (h : Heap) : Prop where
  ns : ∃ mc, h.Ns L mc ∧ ∀ x v, m.lookup x = some v → ∃ pv, mc x = some pv ∧ VR B h ρ v pv
  off : Off ρ L
  lo : B.h0.get? L = none

structure Ok (c : Cx) (fa : FrA) (m : LM) (H : HA) (A : Around) (env : Env) (L : Addr) (ρ : Rho) (s : Shared) : Prop where
  ak : AOk c A ρ s.heap
  ev : EnvOk fa ρ L A env
  st : St c.B ρ H s.heap
  lc : Loc c.B L m ρ s.heap

section
variable {c : Cx} {fa : FrA} {m m' : LM} {H H' : HA} {A : Around} {env : Env} {L : Addr} {Lx : Option Addr} {ρ ρ' : Rho} {s s' : Shared}

theorem Loc.lx (l : Loc c.B L m ρ s.heap) : LxOk (some L) s.heap := fun L' e => by
  cases e
  obtain ⟨mc, h, _⟩ := l.ns
  exact ⟨mc, h⟩

theorem Step.off (x : Step c.B Lx ρ s ρ' s') {a : Addr} {ob : Obj} (o : Off ρ a) (h : s.heap.get? a = some ob) : Off ρ' a := by
  obtain ⟨t, rfl, ht⟩ := x.pre
  exact o.mono h ht

theorem FrOk.mono {e : Env} (x : Step c.B Lx ρ s ρ' s') (f : FrOk c.B ρ s.heap e) : FrOk c.B ρ' s'.heap e := by
  obtain ⟨k, La, o, h1, h2, h3, h4, h5⟩ := f
  have h6 := x.off h5 h3
  by_cases hL : some La = Lx
  · obtain ⟨o', e', d'⟩ := x.keepL La o h3 hL h4
    exact ⟨k, La, o', h1, h2, e', d', h6⟩
  · obtain ⟨sl, e'⟩ := x.keepN La o h3 h5 hL h4
    exact ⟨k, La, _, h1, h2, e', h4, h6⟩
theorem AOk.mono (x : Step c.B Lx ρ s ρ' s') (k : AOk c A ρ s.heap) : AOk c A ρ' s'.heap :=
  ⟨k.hd, k.dep, k.uni, let ⟨l, h1, h2⟩ := k.fr; ⟨l, h1, fun e he => (h2 e he).mono x⟩⟩
theorem EnvOk.mono (x : Step c.B Lx ρ s ρ' s') (k : EnvOk fa ρ L A env) : EnvOk fa ρ' L A env :=
  ⟨k.sc, k.kind, k.loc, k.glob, k.blt, k.code, k.cells.mono x, k.top, k.real⟩
/-- locals behind a step that leaves them -/
theorem Loc.mono (st : St c.B ρ H s.heap) (x : Step c.B none ρ s ρ' s') (l : Loc c.B L m ρ s.heap) : Loc c.B L m ρ' s'.heap := by
  obtain ⟨⟨mc, ⟨o, es, ep, h1, h2, h3, h4⟩, hv⟩, off, lo⟩ := l
  obtain ⟨sl, e'⟩ := x.keepN L o h1 off (by simp) (fun vs q => by rw [h2] at q; cases q)
  refine ⟨⟨mc, ⟨_, es, ep, e', h2, h3, h4⟩, fun y v e => ?_⟩, x.off off h1, lo⟩
  obtain ⟨pv, a, b⟩ := hv y v e
  exact ⟨pv, a, b.mono st .none x⟩
theorem Ok.next (k : Ok c fa m H A env L ρ s) (x : Step c.B (some L) ρ s ρ' s') (st : St c.B ρ' H' s'.heap) (l : Loc c.B L m' ρ' s'.heap) : Ok c fa m' H' A env L ρ' s' :=
  ⟨k.ak.mono x, k.ev.mono x, st, l⟩
end

/-- an end by an exception, of a tree within a frame -/
inductive RzE (B : Bx) (F : Option Addr) (L : Addr) (ρ : Rho) (s : Shared) (X : Addr → LM → HA → Prop) : Value → Shared → Prop
  | mk {s' : Shared} (ρ' : Rho) (m' : LM) (H' : HA) (a : Addr) {e : Value} : e = .ref a → Step B (some L) ρ s ρ' s' → St B ρ' H' s'.heap → Loc B L m' ρ' s'.heap →
    ExcOk B s'.heap a (fun x => x = .none ∨ ∃ f, F = some f ∧ x = rawInt f) → X a m' H' → RzE B F L ρ s X e s'
/-- an end by an exception, of an operation -/
inductive RzO (B : Bx) (ρ : Rho) (s : Shared) (X : Addr → HA → Prop) : Value → Shared → Prop
  | mk {s' : Shared} (ρ' : Rho) (H' : HA) (a : Addr) {e : Value} : e = .ref a → Step B none ρ s ρ' s' → St B ρ' H' s'.heap → ExcOk B s'.heap a (fun x => x = .none) → X a H' → RzO B ρ s X e s'
/-- the ends of an expression, a test, a row of items, statements, stores -/
inductive EvP (B : Bx) (L : Addr) (ρ : Rho) (s : Shared) (m : LM) (Q : V → HA → Prop) : Value → Shared → Prop
  | mk {s' : Shared} (ρ' : Rho) (H' : HA) (v : V) {pv : Value} : Step B (some L) ρ s ρ' s' → St B ρ' H' s'.heap → Loc B L m ρ' s'.heap → VR B s'.heap ρ' v pv → Q v H' → EvP B L ρ s m Q pv s'
inductive TsP (B : Bx) (L : Addr) (ρ : Rho) (s : Shared) (m : LM) (Q : Bool → HA → Prop) : Bool → Shared → Prop
  | mk {s' : Shared} (ρ' : Rho) (H' : HA) {b : Bool} : Step B (some L) ρ s ρ' s' → St B ρ' H' s'.heap → Loc B L m ρ' s'.heap → Q b H' → TsP B L ρ s m Q b s'
inductive ArP (B : Bx) (L : Addr) (ρ : Rho) (s : Shared) (m : LM) (Q : List V → HA → Prop) : List Value → Shared → Prop
  | mk {s' : Shared} (ρ' : Rho) (H' : HA) (vs : List V) {pvs : List Value} : Step B (some L) ρ s ρ' s' → St B ρ' H' s'.heap → Loc B L m ρ' s'.heap → VRs B s'.heap ρ' vs pvs → Q vs H' → ArP B L ρ s m Q pvs s'
inductive AsP (B : Bx) (L : Addr) (ρ : Rho) (s : Shared) (Q : LM → HA → Prop) : Shared → Prop
  | mk {s' : Shared} (ρ' : Rho) (m' : LM) (H' : HA) : Step B (some L) ρ s ρ' s' → St B ρ' H' s'.heap → Loc B L m' ρ' s'.heap → Q m' H' → AsP B L ρ s Q s'
inductive OuP (B : Bx) (ρ : Rho) (s : Shared) (Q : HA → Prop) : Shared → Prop
  | mk {s' : Shared} (ρ' : Rho) (H' : HA) : Step B none ρ s ρ' s' → St B ρ' H' s'.heap → Q H' → OuP B ρ s Q s'

/-- an expression -/
noncomputable def EvW (c : Cx) (fa : FrA) (e : Expr) (m : LM) (H : HA) (Q : V → HA → Prop) (X : Addr → LM → HA → Prop) : Prop :=
  ∀ A env L ρ s, Ok c fa m H A env L ρ s → wpAny c.B.M A (eval e env)
    (EvP c.B L ρ s m Q)
    (RzE c.B env.frame L ρ s X) s
/-- a test -/
noncomputable def TsW (c : Cx) (fa : FrA) (e : Expr) (m : LM) (H : HA) (Q : Bool → HA → Prop) (X : Addr → LM → HA → Prop) : Prop :=
  ∀ A env L ρ s, Ok c fa m H A env L ρ s → wpAny c.B.M A (isTrue e env (eval e env))
    (TsP c.B L ρ s m Q)
    (RzE c.B env.frame L ρ s X) s
noncomputable def AllW (c : Cx) (fa : FrA) (op : BoolOp) (es : List Expr) (m : LM) (H : HA) (Q : Bool → HA → Prop) (X : Addr → LM → HA → Prop) : Prop :=
  ∀ A env L ρ s, Ok c fa m H A env L ρ s → wpAny c.B.M A (allTrue op es env)
    (TsP c.B L ρ s m Q)
    (RzE c.B env.frame L ρ s X) s
/-- a row of arguments or of items -/
noncomputable def ArW (c : Cx) (fa : FrA) (es : List Expr) (m : LM) (H : HA) (Q : List V → HA → Prop) (X : Addr → LM → HA → Prop) : Prop :=
  ∀ A env L ρ s pos, Ok c fa m H A env L ρ s → wpAny c.B.M A (spliced (backTo pos (starEach es env)))
    (ArP c.B L ρ s m Q)
    (RzE c.B env.frame L ρ s X) s
/-- how a row of statements ends -/
inductive Fl where
  | next
  | brk
  | cont
  | ret (v : V)
noncomputable def FlOk (CB : Bx) (h : Heap) (ρ : Rho) : Fl → Flow → Prop
  | .next, .next => True
  | .brk, .brk => True
  | .cont, .cont => True
  | .ret v, .ret pv => VR CB h ρ v pv
  | _, _ => False
inductive ExP (B : Bx) (L : Addr) (ρ : Rho) (s : Shared) (Q : Fl → LM → HA → Prop) : Flow → Shared → Prop
  | mk {s' : Shared} (ρ' : Rho) (m' : LM) (H' : HA) (f' : Fl) {f : Flow} : Step B (some L) ρ s ρ' s' → St B ρ' H' s'.heap → Loc B L m' ρ' s'.heap → FlOk B s'.heap ρ' f' f → Q f' m' H' → ExP B L ρ s Q f s'
noncomputable def ExS (c : Cx) (fa : FrA) (st : Stmt) (m : LM) (H : HA) (Q : Fl → LM → HA → Prop) (X : Addr → LM → HA → Prop) : Prop :=
  ∀ A env L ρ s, Ok c fa m H A env L ρ s → wpAny c.B.M A (exec st env)
    (ExP c.B L ρ s Q)
    (RzE c.B env.frame L ρ s X) s
noncomputable def ExW (c : Cx) (fa : FrA) (sts : List Stmt) (m : LM) (H : HA) (Q : Fl → LM → HA → Prop) (X : Addr → LM → HA → Prop) : Prop :=
  ∀ A env L ρ s, Ok c fa m H A env L ρ s → wpAny c.B.M A (execs sts env)
    (ExP c.B L ρ s Q)
    (RzE c.B env.frame L ρ s X) s

/-- operations -/
inductive OpQ (B : Bx) (ρ : Rho) (s : Shared) (Q : V → HA → Prop) : Value → Shared → Prop
  | mk {s' : Shared} (ρ' : Rho) (H' : HA) (v : V) {pv : Value} : Step B none ρ s ρ' s' → St B ρ' H' s'.heap → VR B s'.heap ρ' v pv → Q v H' → OpQ B ρ s Q pv s'
noncomputable def Op1 (c : Cx) (f : Value → Sem Value) (x : V) (H : HA) (Q : V → HA → Prop) (X : Addr → HA → Prop) : Prop :=
  ∀ A ρ s a, AOk c A ρ s.heap → St c.B ρ H s.heap → VR c.B s.heap ρ x a → wpAny c.B.M A (f a) (OpQ c.B ρ s Q) (RzO c.B ρ s X) s
noncomputable def Op2 (c : Cx) (f : Value → Value → Sem Value) (x y : V) (H : HA) (Q : V → HA → Prop) (X : Addr → HA → Prop) : Prop :=
  ∀ A ρ s a b, AOk c A ρ s.heap → St c.B ρ H s.heap → VR c.B s.heap ρ x a → VR c.B s.heap ρ y b → wpAny c.B.M A (f a b) (OpQ c.B ρ s Q) (RzO c.B ρ s X) s
noncomputable def OpN (c : Cx) (f : List Value → Sem Value) (xs : List V) (H : HA) (Q : V → HA → Prop) (X : Addr → HA → Prop) : Prop :=
  ∀ A ρ s vs, AOk c A ρ s.heap → St c.B ρ H s.heap → VRs c.B s.heap ρ xs vs → wpAny c.B.M A (f vs) (OpQ c.B ρ s Q) (RzO c.B ρ s X) s
/-- operations that give nothing back -/
noncomputable def OpU2 (c : Cx) (f : Value → Value → Sem Unit) (x y : V) (H : HA) (Q : HA → Prop) : Prop :=
  ∀ A ρ s a b, AOk c A ρ s.heap → St c.B ρ H s.heap → VR c.B s.heap ρ x a → VR c.B s.heap ρ y b →
    wpAny c.B.M A (f a b) (fun _ => OuP c.B ρ s Q) (fun _ _ => False) s
noncomputable def OpU3 (c : Cx) (f : Value → Value → Value → Sem Unit) (x y z : V) (H : HA) (Q : HA → Prop) : Prop :=
  ∀ A ρ s a b d, AOk c A ρ s.heap → St c.B ρ H s.heap → VR c.B s.heap ρ x a → VR c.B s.heap ρ y b → VR c.B s.heap ρ z d →
    wpAny c.B.M A (f a b d) (fun _ => OuP c.B ρ s Q) (fun _ _ => False) s

noncomputable def ofO (X : Addr → LM → HA → Prop) (m : LM) : Addr → HA → Prop := fun a H => X a m H

section
variable {c : Cx} {fa : FrA} {m m' : LM} {H H' : HA} {A : Around} {env : Env} {L : Addr} {Lx : Option Addr} {ρ ρ' : Rho} {s s' : Shared} {X : Addr → LM → HA → Prop} {F : Option Addr}

theorem RzE.after (x : Step c.B (some L) ρ s ρ' s') {e : Value} {s'' : Shared} (r : RzE c.B F L ρ' s' X e s'') : RzE c.B F L ρ s X e s'' := by
  cases r with | mk a b d e f g h i j k => exact .mk a b d e f (x.trans g) h i j k
theorem EvP.after {Q : V → HA → Prop} (x : Step c.B (some L) ρ s ρ' s') {e : Value} {s'' : Shared} (r : EvP c.B L ρ' s' m Q e s'') : EvP c.B L ρ s m Q e s'' := by
  cases r with | mk a b d g h i j k => exact .mk a b d (x.trans g) h i j k
theorem TsP.after {Q : Bool → HA → Prop} (x : Step c.B (some L) ρ s ρ' s') {e : Bool} {s'' : Shared} (r : TsP c.B L ρ' s' m Q e s'') : TsP c.B L ρ s m Q e s'' := by
  cases r with | mk a b g h i j => exact .mk a b (x.trans g) h i j
theorem ArP.after {Q : List V → HA → Prop} (x : Step c.B (some L) ρ s ρ' s') {e : List Value} {s'' : Shared} (r : ArP c.B L ρ' s' m Q e s'') : ArP c.B L ρ s m Q e s'' := by
  cases r with | mk a b d g h i j k => exact .mk a b d (x.trans g) h i j k
theorem AsP.after {Q : LM → HA → Prop} (x : Step c.B (some L) ρ s ρ' s') {s'' : Shared} (r : AsP c.B L ρ' s' Q s'') : AsP c.B L ρ s Q s'' := by
  cases r with | mk a b d g h i j => exact .mk a b d (x.trans g) h i j
theorem ExP.after {Q : Fl → LM → HA → Prop} (x : Step c.B (some L) ρ s ρ' s') {f : Flow} {s'' : Shared} (r : ExP c.B L ρ' s' Q f s'') : ExP c.B L ρ s Q f s'' := by
  cases r with | mk a b d e g h i j k => exact .mk a b d e (x.trans g) h i j k
theorem RzO.toE (st : St c.B ρ H s.heap) (l : Loc c.B L m ρ s.heap) {e : Value} {s'' : Shared} (r : RzO c.B ρ s (ofO X m) e s'') : RzE c.B F L ρ s X e s'' := by
  obtain ⟨ρ'', H', a, h1, h2, h3, ⟨o, vs, g1, g2, g3, g0, g4⟩, h5⟩ := r
  refine ⟨ρ'', m, H', a, h1, h2.atL l.off, h3, l.mono st h2, ⟨o, vs, g1, g2, g3, g0, g4.imp id ?_⟩, h5⟩
  rintro ⟨T, oT, ts, f, x, z0, z1, z2, z3, z4, z5, z6, z7⟩
  exact ⟨T, oT, ts, f, x, z0, z1, z2, z3, z4, z5, z6, .inl z7⟩

/-- an operation within a frame -/
theorem op_in {t : Sem Value} {Q : V → HA → Prop} (k : Ok c fa m H A env L ρ s) (h : wpAny c.B.M A t (OpQ c.B ρ s Q) (RzO c.B ρ s (ofO X m)) s) :
    wpAny c.B.M A t (EvP c.B L ρ s m Q) (RzE c.B env.frame L ρ s X) s :=
  wpAny_mono h (by rintro pv s' ⟨ρ', H', v, h1, h2, h3, h4⟩; exact ⟨ρ', H', v, h1.atL k.lc.off, h2, k.lc.mono k.st h1, h3, h4⟩) fun _ _ r => r.toE k.st k.lc

theorem EvW.mono {e : Expr} {Q Q' : V → HA → Prop} {X' : Addr → LM → HA → Prop} (h : EvW c fa e m H Q X) (q : ∀ v H', Q v H' → Q' v H') (x : ∀ a m' H', X a m' H' → X' a m' H') : EvW c fa e m H Q' X' := fun A env L ρ s k =>
  wpAny_mono (h A env L ρ s k) (by rintro pv s' ⟨ρ', H', v, h1, h2, h3, h4, h5⟩; exact ⟨ρ', H', v, h1, h2, h3, h4, q _ _ h5⟩) (by rintro e s' ⟨ρ', m', H', a, h1, h2, h3, h4, h5, h6⟩; exact ⟨ρ', m', H', a, h1, h2, h3, h4, h5, x _ _ _ h6⟩)
/-! ### steps of the tokens alone -/
theorem Step.toks {ρ : Rho} {s : Shared} {n : Nat} : Step c.B Lx ρ s ρ { s with toks := n } where
  pre := ⟨[], by simp, by simp⟩
  live := fun _ o e => ⟨o, e⟩
  keepN := fun _ o e _ _ _ => ⟨o.slots, e⟩
  keepL := fun _ o e _ h => ⟨o, e, h⟩
  keepF := fun _ _ e _ _ _ _ _ => e
  code := fun _ _ x => x
  exc := fun _ x => x
  gens := rfl
  os := rfl

theorem evC {e : Expr} {Q : V → HA → Prop} (v : V) (hq : Q v H) (h : ∀ {A env s} {R : Value → Shared → Prop} {E : Value → Shared → Prop}, (∀ pv n, (∀ CB h ρ, VR CB h ρ v pv) → R pv { s with toks := n }) → wpAny c.B.M A (eval e env) R E s) :
    EvW c fa e m H Q X := fun A env L ρ s k => h fun pv n hv => ⟨ρ, H, v, Step.toks, k.st, k.lc, hv _ _ _, hq⟩
theorem ev_int {i : Int} {k : Nat} {pos : Pos} {Q : V → HA → Prop} (hq : Q (.int i) H) : EvW c fa (.Constant (.int i) k pos) m H Q X :=
  evC _ hq fun r => wpAny_Constant_int (r _ _ fun _ _ _ => .int _ _)
theorem ev_str {i : Str} {k : Nat} {pos : Pos} {Q : V → HA → Prop} (hq : Q (.str i) H) : EvW c fa (.Constant (.str i) k pos) m H Q X :=
  evC _ hq fun r => wpAny_Constant_str (r _ _ fun _ _ _ => .str _ _)
theorem ev_none {k : Nat} {pos : Pos} {Q : V → HA → Prop} (hq : Q .none H) : EvW c fa (.Constant .none k pos) m H Q X :=
  evC _ hq fun {A env s R E} r => wpAny_pure (r _ s.toks fun _ _ _ => .none)
theorem ev_bool {b : Bool} {k : Nat} {pos : Pos} {Q : V → HA → Prop} (hq : Q (.bool b) H) : EvW c fa (.Constant (.bool b) k pos) m H Q X :=
  evC _ hq fun {A env s R E} r => wpAny_pure (r _ s.toks fun _ _ _ => .bool b)
end
/-! ### PC -/
noncomputable abbrev BinK2 (c : Cx) (m : LM) (f : Value → Value → Sem Value) (Q : V → HA → Prop) (X : Addr → LM → HA → Prop) (x : V) : V → HA → Prop := fun y H2 => Op2 c f x y H2 Q (ofO X m)
noncomputable abbrev BinK (c : Cx) (fa : FrA) (r : Expr) (m : LM) (f : Value → Value → Sem Value) (Q : V → HA → Prop) (X : Addr → LM → HA → Prop) : V → HA → Prop := fun x H1 => EvW c fa r m H1 (BinK2 c m f Q X x) X
noncomputable abbrev UnK (c : Cx) (m : LM) (f : Value → Sem Value) (Q : V → HA → Prop) (X : Addr → LM → HA → Prop) : V → HA → Prop := fun a H1 => Op1 c f a H1 Q (ofO X m)
noncomputable abbrev GetF (attr : Str) : Value → Sem Value := fun o => getAttr o attr true
noncomputable abbrev SetF (attr : Str) : Value → Value → Sem Unit := fun o x => setAttr o attr x
noncomputable abbrev IfK (c : Cx) (fa : FrA) (m : LM) (b o : Expr) (Q : V → HA → Prop) (X : Addr → LM → HA → Prop) : Bool → HA → Prop := fun z H1 => if z then EvW c fa b m H1 Q X else EvW c fa o m H1 Q X
noncomputable abbrev ArK2 (Q : List V → HA → Prop) (v : V) : List V → HA → Prop := fun vs H2 => Q (v :: vs) H2
noncomputable abbrev ArK (c : Cx) (fa : FrA) (es : List Expr) (m : LM) (Q : List V → HA → Prop) (X : Addr → LM → HA → Prop) : V → HA → Prop := fun v H1 => ArW c fa es m H1 (ArK2 Q v) X
noncomputable abbrev TupK (Q : V → HA → Prop) : List V → HA → Prop := fun vs H1 => vs.length ≤ 1000 ∧ Q (.tup vs) H1
noncomputable abbrev LstK (Q : V → HA → Prop) : List V → HA → Prop := fun vs H1 => vs.length ≤ 1000 ∧ Q (.ref H1.length) (H1 ++ [.list vs])
noncomputable abbrev BoolK (Q : Bool → HA → Prop) : V → HA → Prop := fun v H1 => match v with | .bool b => Q b H1 | _ => False
theorem BoolK.inv {Q : Bool → HA → Prop} {v : V} {H1 : HA} (h : BoolK Q v H1) : ∃ b, v = .bool b ∧ Q b H1 := by
  cases v <;> first | exact h.elim | exact ⟨_, rfl, h⟩
noncomputable abbrev NotK (Q : Bool → HA → Prop) : Bool → HA → Prop := fun b H1 => Q (!b) H1
noncomputable abbrev AndK (c : Cx) (fa : FrA) (es : List Expr) (m : LM) (Q : Bool → HA → Prop) (X : Addr → LM → HA → Prop) : Bool → HA → Prop := fun b H1 => if b then AllW c fa .And es m H1 Q X else Q false H1
noncomputable abbrev OrK (c : Cx) (fa : FrA) (es : List Expr) (m : LM) (Q : Bool → HA → Prop) (X : Addr → LM → HA → Prop) : Bool → HA → Prop := fun b H1 => if b then Q true H1 else AllW c fa .Or es m H1 Q X

section expr
variable {c : Cx} {fa : FrA} {m m' : LM} {H H' : HA} {X : Addr → LM → HA → Prop} {Q : V → HA → Prop}

theorem ev_op1 {e : Expr} {x : Expr} {f : Value → Sem Value}
    (hw : ∀ {A env s} {R : Value → Shared → Prop} {E : Value → Shared → Prop}, wpAny c.B.M A (eval x env) (fun a s₁ => wpAny c.B.M A (f a) R E s₁) E s → wpAny c.B.M A (eval e env) R E s)
    (h : EvW c fa x m H (UnK c m f Q X) X) : EvW c fa e m H Q X := fun A env L ρ s k => by
  refine hw (wpAny_mono (h A env L ρ s k) ?_ fun _ _ r => r)
  rintro a s₁ ⟨ρ₁, H₁, x, x1, st1, l1, vx, h1⟩
  have k1 := k.next x1 st1 l1
  refine wpAny_mono (op_in k1 (h1 A ρ₁ s₁ a k1.ak st1 vx)) (by rintro pv s₂ ⟨ρ₂, H₂, v, x2, st2, l2, v2, q⟩; exact ⟨ρ₂, H₂, v, x1.trans x2, st2, l2, v2, q⟩) fun _ _ r => r.after x1
theorem ev_op2 {e : Expr} {l r : Expr} {f : Value → Value → Sem Value}
    (hw : ∀ {A env s} {R : Value → Shared → Prop} {E : Value → Shared → Prop}, wpAny c.B.M A (eval l env) (fun a s₁ => wpAny c.B.M A (eval r env) (fun b s₂ => wpAny c.B.M A (f a b) R E s₂) E s₁) E s → wpAny c.B.M A (eval e env) R E s)
    (h : EvW c fa l m H (BinK c fa r m f Q X) X) : EvW c fa e m H Q X := fun A env L ρ s k => by
  refine hw (wpAny_mono (h A env L ρ s k) ?_ fun _ _ r => r)
  rintro a s₁ ⟨ρ₁, H₁, x, x1, st1, l1, vx, h1⟩
  have k1 := k.next x1 st1 l1
  refine wpAny_mono (h1 A env L ρ₁ s₁ k1) ?_ fun _ _ r => r.after x1
  rintro b s₂ ⟨ρ₂, H₂, y, x2, st2, l2, vy, h2⟩
  have k2 := k1.next x2 st2 l2
  refine wpAny_mono (op_in k2 (h2 A ρ₂ s₂ a b k2.ak st2 (vx.mono st1 l1.lx x2) vy)) (by rintro pv s₃ ⟨ρ₃, H₃, v, x3, st3, l3, v3, q⟩; exact ⟨ρ₃, H₃, v, (x1.trans x2).trans x3, st3, l3, v3, q⟩) fun _ _ r => r.after (x1.trans x2)

theorem ev_bin {l r : Expr} {op : Operator} {pos : Pos} (h : EvW c fa l m H (BinK c fa r m (binaryOp op) Q X) X) :
    EvW c fa (.BinOp l op r pos) m H Q X := ev_op2 (fun h => wpAny_BinOp h) h
theorem ev_un {x : Expr} {op : UnaryOp} {pos : Pos} (h : EvW c fa x m H (UnK c m (unaryOp op) Q X) X) : EvW c fa (.UnaryOp op x pos) m H Q X := ev_op1 (fun h => wpAny_UnaryOp h) h
theorem ev_cmp {l r : Expr} {op : CmpOp} {pos : Pos} (h : EvW c fa l m H (BinK c fa r m (compareOp op) Q X) X)
    (hm : behindInMarks op r = false := by with_unfolding_all rfl) : EvW c fa (.Compare l [op] [r] pos) m H Q X := ev_op2 (fun h => wpAny_Compare1 h hm) h
theorem ev_attr {x : Expr} {attr : Str} {pos : Pos} (h : EvW c fa x m H (UnK c m (GetF attr) Q X) X)
    (he : ∀ env, eval (.Attribute x attr pos) env = (do
      let o ← eval x env
      standAt pos.atName
      let r ← holding [o] (getAttr o attr true)
      letTemporaryGo x o r
      pure r) := by intro _; with_unfolding_all rfl) : EvW c fa (.Attribute x attr pos) m H Q X := ev_op1 (fun {_ env _ _ _} h => Attribute_any_ h (he env)) h
theorem ev_sub {l r : Expr} {pos : Pos} (h : EvW c fa l m H (BinK c fa r m (subscriptTail l r) Q X) X) :
    EvW c fa (.Subscript l r pos) m H Q X := ev_op2 (fun h => Subscript_ h) h

theorem ev_if {t b o : Expr} {pos : Pos} (h : TsW c fa t m H (IfK c fa m b o Q X) X) : EvW c fa (.IfExp t b o pos) m H Q X := fun A env L ρ s k => by
  refine wpAny_IfExp (wpAny_mono (h A env L ρ s k) ?_ fun _ _ r => r)
  rintro z s₁ ⟨ρ₁, H₁, x1, st1, l1, h1⟩
  have k1 := k.next x1 st1 l1
  cases z
  · exact wpAny_mono (h1 A env L ρ₁ s₁ k1) (fun _ _ r => r.after x1) fun _ _ r => r.after x1
  · exact wpAny_mono (h1 A env L ρ₁ s₁ k1) (fun _ _ r => r.after x1) fun _ _ r => r.after x1

/-! names -/
theorem ev_loc {x : Str} {pos : Pos} {v : V} (hv : m.lookup x = some v) (hx : fa.cs.names.lookup x = some .local) (hq : Q v H) (hd : (x == ("__debug__" : Str)) = false := by kernel_rfl) :
    EvW c fa (.Name x pos) m H Q X := fun A env L ρ s k => by
  obtain ⟨mc, hn, hm⟩ := k.lc.ns
  obtain ⟨pv, e, r⟩ := hm x v hv
  refine wpAny_Name (wpAny_loadName_local (by rw [k.ev.sc]; exact k.ev.kind) (by unfold Env.kindOf; rw [k.ev.sc]; exact hx) (by rw [k.ev.loc]; exact hn) e ?_) hd
  exact ⟨ρ, H, v, Step.refl, k.st, k.lc, r, hq⟩
theorem ev_free {x : Str} {pos : Pos} {v : V} {n : Nat} (hn : fa.cl.lookup x = some n) (hv : H[n]? = some (.cell (some v))) (hx : fa.cs.names.lookup x = some .free) (hq : Q v H)
    (hd : (x == ("__debug__" : Str)) = false := by kernel_rfl) (hd' : (x == ("__classdict__" : Str)) = false := by kernel_rfl) :
    EvW c fa (.Name x pos) m H Q X := fun A env L ρ s k => by
  obtain ⟨q, e1, e2⟩ := k.ev.cells x n hn
  obtain ⟨q', e1', r⟩ := k.st.addr hv
  rw [e1] at e1'; cases e1'
  obtain ⟨-, pv, hc, r⟩ := r
  exact wpAny_Name (wpAny_loadName_free (by rw [k.ev.sc]; exact k.ev.kind) (by unfold Env.kindOf; rw [k.ev.sc]; exact hx) e2 hc ⟨ρ, H, v, Step.refl, k.st, k.lc, r, hq⟩ hd') hd
theorem ev_cell {x : Str} {pos : Pos} {v : V} {n : Nat} (hn : fa.cl.lookup x = some n) (hv : H[n]? = some (.cell (some v))) (hx : fa.cs.names.lookup x = some .cell) (hq : Q v H)
    (hd : (x == ("__debug__" : Str)) = false := by kernel_rfl) :
    EvW c fa (.Name x pos) m H Q X := fun A env L ρ s k => by
  obtain ⟨q, e1, e2⟩ := k.ev.cells x n hn
  obtain ⟨q', e1', r⟩ := k.st.addr hv
  rw [e1] at e1'; cases e1'
  obtain ⟨-, pv, hc, r⟩ := r
  exact wpAny_Name (wpAny_loadName_cell (by rw [k.ev.sc]; exact k.ev.kind) (by unfold Env.kindOf; rw [k.ev.sc]; exact hx) e2 hc ⟨ρ, H, v, Step.refl, k.st, k.lc, r, hq⟩) hd
theorem St.K {B : Bx} {ρ : Rho} {h : Heap} (st : St B ρ H h) : B.K.In h := fun a o e => st.base a o (B.X a o e)
theorem ev_globV {x : Str} {pos : Pos} {pv : Value} {v : V} (e : nsIn c.B.K mainGlobals x = some (some pv)) (hx : fa.cs.names.lookup x = some .globalImplicit) (hv : ∀ ρ h, (∀ a o, c.B.h0.get? a = some o → h.get? a = some o) → VR c.B h ρ v pv) (hq : Q v H)
    (hd : (x == ("__debug__" : Str)) = false := by kernel_rfl) :
    EvW c fa (.Name x pos) m H Q X := fun A env L ρ s k => by
  refine Calls.Name_function_global (by rw [k.ev.sc]; exact k.ev.kind) (by unfold Env.kindOf; rw [k.ev.sc]; exact hx) (Calls.loadGlobal_global (by rw [k.ev.glob]; exact c.B.T.g.keeps k.st.base) (mg_of c.B.X c.B.T.g e) ?_) hd
  exact ⟨ρ, H, v, Step.refl, k.st, k.lc, hv _ _ k.st.base, hq⟩
theorem ev_glob {x : Str} {pos : Pos} {a : Addr} (e : nsIn c.B.K mainGlobals x = some (some (.ref a))) (hx : fa.cs.names.lookup x = some .globalImplicit) (hq : Q (.glob a) H)
    (hd : (x == ("__debug__" : Str)) = false := by kernel_rfl) :
    EvW c fa (.Name x pos) m H Q X := ev_globV e hx (fun _ _ _ => .glob a) hq hd
theorem ev_bi {x : Str} {pos : Pos} {n : String} (e : nsIn c.B.K mainGlobals x = some none) (hv : bootBuiltins x = some (.builtin n)) (hx : fa.cs.names.lookup x = some .globalImplicit) (hq : Q (.bi n) H)
    (hd : (x == ("__debug__" : Str)) = false := by kernel_rfl) (hn : (x == ("__name__" : Str)) = false := by kernel_rfl) :
    EvW c fa (.Name x pos) m H Q X := fun A env L ρ s k => by
  refine Calls.Name_function_global (by rw [k.ev.sc]; exact k.ev.kind) (by unfold Env.kindOf; rw [k.ev.sc]; exact hx) (Calls.loadGlobal_builtin (by rw [k.ev.glob]; exact c.B.T.g.keeps k.st.base) (mg_none_of c.B.X c.B.T.g e) (by rw [k.ev.blt]; exact c.B.T.b.keeps k.st.base) ((c.B.T.builtins x (ne_of_beq_false hn)).trans hv) ?_) hd
  exact ⟨ρ, H, _, Step.refl, k.st, k.lc, .bi n, hq⟩
theorem ev_ty {x : Str} {pos : Pos} {n : String} (e : nsIn c.B.K mainGlobals x = some none) (hv : bootBuiltins x = some (.type n)) (hx : fa.cs.names.lookup x = some .globalImplicit) (hq : Q (.ty n) H)
    (hd : (x == ("__debug__" : Str)) = false := by kernel_rfl) (hn : (x == ("__name__" : Str)) = false := by kernel_rfl) :
    EvW c fa (.Name x pos) m H Q X := fun A env L ρ s k => by
  refine Calls.Name_function_global (by rw [k.ev.sc]; exact k.ev.kind) (by unfold Env.kindOf; rw [k.ev.sc]; exact hx) (Calls.loadGlobal_builtin (by rw [k.ev.glob]; exact c.B.T.g.keeps k.st.base) (mg_none_of c.B.X c.B.T.g e) (by rw [k.ev.blt]; exact c.B.T.b.keeps k.st.base) ((c.B.T.builtins x (ne_of_beq_false hn)).trans hv) ?_) hd
  exact ⟨ρ, H, _, Step.refl, k.st, k.lc, .ty n, hq⟩

/-! rows of items -/
theorem ar_nil {Q : List V → HA → Prop} (hq : Q [] H) : ArW c fa [] m H Q X := fun A env L ρ s pos k => Calls.spliced_nil ⟨ρ, H, [], Step.refl, k.st, k.lc, trivial, hq⟩
theorem ar_cons {e : Expr} {es : List Expr} {Q : List V → HA → Prop} (h : EvW c fa e m H (ArK c fa es m Q X) X)
    (he : ∀ env, starEach (e :: es) env = (false, eval e env) :: starEach es env := by intro _; with_unfolding_all rfl) : ArW c fa (e :: es) m H Q X := fun A env L ρ s pos k => by
  rw [he]
  refine Calls.spliced_cons (wpAny_mono (h A env L ρ s k) ?_ fun _ _ r => r)
  rintro a s₁ ⟨ρ₁, H₁, x, x1, st1, l1, vx, h1⟩
  exact wpAny_mono (h1 A env L ρ₁ s₁ pos (k.next x1 st1 l1)) (by rintro b s₂ ⟨ρ₂, H₂, y, x2, st2, l2, vy, h2⟩; exact ⟨ρ₂, H₂, _, x1.trans x2, st2, l2, VRs.cons (vx.mono st1 l1.lx x2) vy, h2⟩) fun _ _ r => r.after x1

theorem ev_tup {es : List Expr} {k : Nat} {pos : Pos} (h : ArW c fa es m H (TupK Q) X) : EvW c fa (.Tuple es k pos) m H Q X := fun A env L ρ s k => by
  refine wpAny_Tuple_spliced (wpAny_mono (h A env L ρ s pos k) ?_ fun _ _ r => r)
  rintro pvs s₁ ⟨ρ₁, H₁, vs, x1, st1, l1, vv, hz, hq⟩
  have hl := vv.length
  refine ⟨by rw [sizeLine_eq]; lia, ?_⟩
  have kp : ∀ b o, s₁.heap.get? b = some o → (s₁.heap.push { cls := .type "tuple", data := .seq pvs.toArray }).get? b = some o := fun b o e => Heap.get?_push_of_some _ e
  have x2 : Step c.B none ρ₁ s₁ ρ₁ { s₁ with heap := s₁.heap.push { cls := .type "tuple", data := .seq pvs.toArray } } := Step.ext kp rfl rfl
  have st2 := St.ext (s' := { s₁ with heap := s₁.heap.push { cls := .type "tuple", data := .seq pvs.toArray } }) st1 kp rfl rfl
  exact ⟨ρ₁, H₁, .tup vs, x1.trans (x2.atL l1.off), st2, l1.mono st1 x2, .tup ⟨_, Heap.get?_push_size _ rfl, rfl, _, rfl⟩ hl fun i x v e e' => (vv.get i x v e e').mono st1 .none x2, hq⟩
theorem ev_list {es : List Expr} {pos : Pos} (h : ArW c fa es m H (LstK Q) X) : EvW c fa (.List es pos) m H Q X := fun A env L ρ s k => by
  refine wpAny_List_spliced (wpAny_mono (h A env L ρ s pos k) ?_ fun _ _ r => r)
  rintro pvs s₁ ⟨ρ₁, H₁, vs, x1, st1, l1, vv, hz, hq⟩
  have hl := vv.length
  refine ⟨by rw [sizeLine_eq]; lia, ?_⟩
  have kp : ∀ b o, s₁.heap.get? b = some o → (s₁.heap.push { cls := .type "list", data := .seq pvs.toArray }).get? b = some o := fun b o e => Heap.get?_push_of_some _ e
  have x2 : Step c.B none ρ₁ s₁ (ρ₁ ++ [(s₁.heap.objs.size, s₁.heap.objs.size)]) { s₁ with heap := s₁.heap.push { cls := .type "list", data := .seq pvs.toArray } } := Step.new kp rfl rfl ⟨Nat.le_refl _, Nat.le_refl _⟩
  have st2 := St.new (ob := .list vs) (s' := { s₁ with heap := s₁.heap.push { cls := .type "list", data := .seq pvs.toArray } }) st1 kp rfl rfl (q := (s₁.heap.objs.size, s₁.heap.objs.size)) ⟨Nat.le_refl _, Nat.le_refl _⟩
    ⟨rfl, pvs, 0, Heap.get?_push_size _ rfl, vv.mono st1 .none x2⟩
  refine ⟨_, _, .ref H₁.length, x1.trans (x2.atL l1.off), st2, l1.mono st1 x2, .ref (q := (s₁.heap.objs.size, s₁.heap.objs.size)) ?_, hq⟩
  rw [← st1.len, List.getElem?_concat_length]

/-! tests -/
theorem ts_val {e : Expr} {Q : Bool → HA → Prop} (h : EvW c fa e m H (BoolK Q) X)
    (he : ∀ env whole, isTrue e env whole = (do let v ← whole; standAt e.pos; holding [v] (truthy v)) := by intro _ _; with_unfolding_all rfl) : TsW c fa e m H Q X := fun A env L ρ s k => by
  refine wpAny_isTrue_value (wpAny_mono (h A env L ρ s k) ?_ fun _ _ r => r) (he env _)
  rintro a s₁ ⟨ρ₁, H₁, x, x1, st1, l1, vx, h1⟩
  obtain ⟨b, rfl, h1⟩ := BoolK.inv h1
  obtain rfl := vx.bool_inv
  exact wpAny_truthy_bool ⟨ρ₁, H₁, x1, st1, l1, h1⟩
theorem ts_cmp {l r : Expr} {op : CmpOp} {pos : Pos} {Q : Bool → HA → Prop} (h : EvW c fa l m H (BinK c fa r m (compareOp op) (BoolK Q) X) X)
    (hm : behindInMarks op r = false := by with_unfolding_all rfl) : TsW c fa (.Compare l [op] [r] pos) m H Q X := fun A env L ρ s k => by
  refine wpAny_isTrue_Compare1 (wpAny_mono (h A env L ρ s k) ?_ fun _ _ r => r) hm
  rintro a s₁ ⟨ρ₁, H₁, x, x1, st1, l1, vx, h1⟩
  have k1 := k.next x1 st1 l1
  refine wpAny_mono (h1 A env L ρ₁ s₁ k1) ?_ fun _ _ r => r.after x1
  rintro b s₂ ⟨ρ₂, H₂, y, x2, st2, l2, vy, h2⟩
  have k2 := k1.next x2 st2 l2
  refine wpAny_mono (op_in k2 (h2 A ρ₂ s₂ a b k2.ak st2 (vx.mono st1 l1.lx x2) vy)) ?_ fun _ _ r => r.after (x1.trans x2)
  rintro pv s₃ ⟨ρ₃, H₃, v, x3, st3, l3, v3, q⟩
  obtain ⟨b, rfl, q⟩ := BoolK.inv q
  obtain rfl := v3.bool_inv
  exact wpAny_truthy_bool ⟨ρ₃, H₃, (x1.trans x2).trans x3, st3, l3, q⟩
theorem ts_not {e : Expr} {pos : Pos} {Q : Bool → HA → Prop} (h : TsW c fa e m H (NotK Q) X) : TsW c fa (.UnaryOp .Not e pos) m H Q X := fun A env L ρ s k =>
  wpAny_isTrue_Not (wpAny_mono (h A env L ρ s k) (by rintro b s₁ ⟨ρ₁, H₁, x1, st1, l1, q⟩; exact ⟨ρ₁, H₁, x1, st1, l1, q⟩) fun _ _ r => r)
theorem ts_bool {op : BoolOp} {es : List Expr} {pos : Pos} {Q : Bool → HA → Prop} (h : AllW c fa op es m H Q X) : TsW c fa (.BoolOp op es pos) m H Q X := fun A env L ρ s k => wpAny_isTrue_BoolOp (h A env L ρ s k)
theorem and_nil {Q : Bool → HA → Prop} (h : Q true H) : AllW c fa .And [] m H Q X := fun A env L ρ s k => wpAny_allTrue_And_nil ⟨ρ, H, Step.refl, k.st, k.lc, h⟩
theorem or_nil {Q : Bool → HA → Prop} (h : Q false H) : AllW c fa .Or [] m H Q X := fun A env L ρ s k => wpAny_allTrue_Or_nil ⟨ρ, H, Step.refl, k.st, k.lc, h⟩
theorem and_cons {e : Expr} {es : List Expr} {Q : Bool → HA → Prop} (h : TsW c fa e m H (AndK c fa es m Q X) X) : AllW c fa .And (e :: es) m H Q X := fun A env L ρ s k =>
  wpAny_allTrue_And_cons (wpAny_mono (h A env L ρ s k) (fun b s₁ ⟨ρ₁, H₁, x1, st1, l1, q⟩ => by
    cases b
    · exact ⟨ρ₁, H₁, x1, st1, l1, q⟩
    · exact wpAny_mono (q A env L ρ₁ s₁ (k.next x1 st1 l1)) (fun _ _ r => r.after x1) fun _ _ r => r.after x1) fun _ _ r => r)
theorem or_cons {e : Expr} {es : List Expr} {Q : Bool → HA → Prop} (h : TsW c fa e m H (OrK c fa es m Q X) X) : AllW c fa .Or (e :: es) m H Q X := fun A env L ρ s k =>
  wpAny_allTrue_Or_cons (wpAny_mono (h A env L ρ s k) (fun b s₁ ⟨ρ₁, H₁, x1, st1, l1, q⟩ => by
    cases b
    · exact wpAny_mono (q A env L ρ₁ s₁ (k.next x1 st1 l1)) (fun _ _ r => r.after x1) fun _ _ r => r.after x1
    · exact ⟨ρ₁, H₁, x1, st1, l1, q⟩) fun _ _ r => r)
end expr
/-! ### PD -/
/-- dicts of the text's, abstractly -/
noncomputable def dget {K : Type} [DecidableEq K] (es : List (K × V)) (k : K) : Option V := (es.find? fun kv => kv.1 = k).map (·.2)
noncomputable def dset {K : Type} [DecidableEq K] (es : List (K × V)) (k : K) (v : V) : List (K × V) :=
  if es.any (fun kv => kv.1 = k) then es.map (fun kv => if kv.1 = k then (kv.1, v) else kv) else es ++ [(k, v)]

section dict
variable {CB : Bx} {h : Heap} {ρ : Rho} {K : Type}
theorem DctR.get [DecidableEq K] {k : K} : ∀ {es : List (K × V)} {kvs : List (K × Value)}, DctR CB h ρ es kvs → (∀ v, dget es k = some v → ∃ pv, valueAt kvs k = some pv ∧ VR CB h ρ v pv) ∧ (valueAt kvs k).isSome = (dget es k).isSome
  | [], [], _ => ⟨fun v e => by simp [dget] at e, rfl⟩
  | (a, x) :: es, (b, y) :: kvs, r => by
    obtain ⟨rfl, r1, r2⟩ := r
    by_cases e : a = k
    · subst e
      constructor
      · intro v q
        simp [dget] at q
        subst q
        exact ⟨y, by simp [valueAt], r1⟩
      · simp [dget, valueAt]
    · have i := DctR.get (k := k) r2
      constructor
      · intro v q
        have : dget es k = some v := by simpa [dget, e] using q
        obtain ⟨pv, z1, z2⟩ := i.1 v this
        exact ⟨pv, by simpa [valueAt, e] using z1, z2⟩
      · have := i.2
        simpa [dget, valueAt, e] using this
  | [], _ :: _, r => r.elim
  | (_, _) :: _, [], r => r.elim
theorem DctR.any [DecidableEq K] {k : K} : ∀ {es : List (K × V)} {kvs : List (K × Value)}, DctR CB h ρ es kvs → kvs.any (fun kv => kv.1 = k) = es.any fun kv => kv.1 = k
  | [], [], _ => rfl
  | (a, x) :: es, (b, y) :: kvs, r => by
    obtain ⟨rfl, r1, r2⟩ := r
    simp only [List.any_cons, DctR.any r2]
  | [], _ :: _, r => r.elim
  | (_, _) :: _, [], r => r.elim
theorem DctR.map [DecidableEq K] {k : K} {v : V} {pv : Value} (q : VR CB h ρ v pv) : ∀ {es : List (K × V)} {kvs : List (K × Value)}, DctR CB h ρ es kvs →
    DctR CB h ρ (es.map fun kv => if kv.1 = k then (kv.1, v) else kv) (kvs.map fun kv => if kv.1 = k then (kv.1, pv) else kv)
  | [], [], _ => trivial
  | (a, x) :: es, (b, y) :: kvs, r => by
    obtain ⟨rfl, r1, r2⟩ := r
    by_cases e : a = k
    · simp only [List.map_cons, e, if_true]; exact ⟨rfl, q, DctR.map q r2⟩
    · simp only [List.map_cons, e, if_false]; exact ⟨rfl, r1, DctR.map q r2⟩
  | [], _ :: _, r => r.elim
  | (_, _) :: _, [], r => r.elim
theorem DctR.snoc {k : K} {v : V} {pv : Value} (q : VR CB h ρ v pv) : ∀ {es : List (K × V)} {kvs : List (K × Value)}, DctR CB h ρ es kvs → DctR CB h ρ (es ++ [(k, v)]) (kvs ++ [(k, pv)])
  | [], [], _ => ⟨rfl, q, trivial⟩
  | (a, x) :: es, (b, y) :: kvs, r => ⟨r.1, r.2.1, DctR.snoc q r.2.2⟩
  | [], _ :: _, r => r.elim
  | (_, _) :: _, [], r => r.elim
theorem DctR.set [DecidableEq K] {k : K} {v : V} {pv : Value} (q : VR CB h ρ v pv) {es : List (K × V)} {kvs : List (K × Value)} (r : DctR CB h ρ es kvs) : DctR CB h ρ (dset es k v) (stored kvs k pv) := by
  unfold dset stored
  rw [r.any]
  split
  · exact r.map q
  · exact r.snoc q
theorem DctR.length : ∀ {es : List (K × V)} {kvs : List (K × Value)}, DctR CB h ρ es kvs → es.length = kvs.length
  | [], [], _ => rfl
  | (_, _) :: _, (_, _) :: _, r => by simp [DctR.length r.2.2]
  | [], _ :: _, r => r.elim
  | (_, _) :: _, [], r => r.elim
end dict

section ops
variable {c : Cx} {H H' : HA} {X : Addr → HA → Prop} {Q : V → HA → Prop} {i j : Int} {a b : Bool} {x y : Str}

theorem opI {f : Value → Value → Sem Value} {u v : V} (w : V) (hq : Q w H)
    (h : ∀ {A s} {R : Value → Shared → Prop} {E : Value → Shared → Prop} {ρ pu pv}, VR c.B s.heap ρ u pu → VR c.B s.heap ρ v pv → (∀ pv n, (∀ CB h ρ, VR CB h ρ w pv) → R pv { s with toks := n }) → wpAny c.B.M A (f pu pv) R E s) :
    Op2 c f u v H Q X := fun A ρ s a b ak st va vb => h va vb fun pv n hv => ⟨ρ, H, w, Step.toks, st, hv _ _ _, hq⟩
theorem op_add (hq : Q (.int (i + j)) H) : Op2 c (binaryOp .Add) (.int i) (.int j) H Q X := opI _ hq fun va vb r => by obtain ⟨_, rfl⟩ := va.int_inv; obtain ⟨_, rfl⟩ := vb.int_inv; with_reducible refine add_int ?_; exact r _ _ fun _ _ _ => .int _ _
theorem op_sub (hq : Q (.int (i - j)) H) : Op2 c (binaryOp .Sub) (.int i) (.int j) H Q X := opI _ hq fun va vb r => by obtain ⟨_, rfl⟩ := va.int_inv; obtain ⟨_, rfl⟩ := vb.int_inv; with_reducible refine sub_int ?_; exact r _ _ fun _ _ _ => .int _ _
theorem op_mul (hm : IntMulOk i j) (hq : Q (.int (i * j)) H) : Op2 c (binaryOp .Mult) (.int i) (.int j) H Q X := opI _ hq fun va vb r => by obtain ⟨_, rfl⟩ := va.int_inv; obtain ⟨_, rfl⟩ := vb.int_inv; with_reducible refine mul_int ?_ hm; exact r _ _ fun _ _ _ => .int _ _
theorem op_mod (hj : j ≠ 0) (hq : Q (.int (i.fmod j)) H) : Op2 c (binaryOp .Mod) (.int i) (.int j) H Q X := opI _ hq fun va vb r => by obtain ⟨_, rfl⟩ := va.int_inv; obtain ⟨_, rfl⟩ := vb.int_inv; with_reducible refine mod_int' hj ?_; exact r _ _ fun _ _ _ => .int _ _
theorem op_fdiv (hj : j ≠ 0) (h1 : i.natAbs < 2 ^ 30) (h2 : j.natAbs < 2 ^ 30) (hq : Q (.int (i.fdiv j)) H) : Op2 c (binaryOp .FloorDiv) (.int i) (.int j) H Q X := opI _ hq fun va vb r => by
  obtain ⟨_, rfl⟩ := va.int_inv; obtain ⟨_, rfl⟩ := vb.int_inv; with_reducible refine floordiv_int hj ?_ (.inl (PyProof.noPylong_small (by lia))); exact r _ _ fun _ _ _ => .int _ _
theorem op_shl (h0 : 0 ≤ j) (h1 : j ≤ 1000) (h2 : i.natAbs < 2 ^ 64) (hq : Q (.int (i * 2 ^ j.toNat)) H) : Op2 c (binaryOp .LShift) (.int i) (.int j) H Q X := opI _ hq fun va vb r => by
  obtain ⟨_, rfl⟩ := va.int_inv; obtain ⟨_, rfl⟩ := vb.int_inv; with_reducible refine lshift_int_small h0 (by lia) h2 ?_; exact r _ _ fun _ _ _ => .int _ _
theorem op_lt (hq : Q (.bool (decide (i < j))) H) : Op2 c (compareOp .Lt) (.int i) (.int j) H Q X := opI _ hq fun {A s R E ρ pu pv} va vb r => by obtain ⟨_, rfl⟩ := va.int_inv; obtain ⟨_, rfl⟩ := vb.int_inv; with_reducible refine lt_int ?_; exact r _ s.toks fun _ _ _ => .bool _
theorem op_gt (hq : Q (.bool (decide (j < i))) H) : Op2 c (compareOp .Gt) (.int i) (.int j) H Q X := opI _ hq fun {A s R E ρ pu pv} va vb r => by obtain ⟨_, rfl⟩ := va.int_inv; obtain ⟨_, rfl⟩ := vb.int_inv; with_reducible refine gt_int ?_; exact r _ s.toks fun _ _ _ => .bool _
theorem op_le (hq : Q (.bool (decide (i ≤ j))) H) : Op2 c (compareOp .LtE) (.int i) (.int j) H Q X := opI _ hq fun {A s R E ρ pu pv} va vb r => by obtain ⟨_, rfl⟩ := va.int_inv; obtain ⟨_, rfl⟩ := vb.int_inv; with_reducible refine le_int ?_; exact r _ s.toks fun _ _ _ => .bool _
theorem op_ge (hq : Q (.bool (decide (j ≤ i))) H) : Op2 c (compareOp .GtE) (.int i) (.int j) H Q X := opI _ hq fun {A s R E ρ pu pv} va vb r => by obtain ⟨_, rfl⟩ := va.int_inv; obtain ⟨_, rfl⟩ := vb.int_inv; with_reducible refine ge_int ?_; exact r _ s.toks fun _ _ _ => .bool _
theorem op_eq (hq : Q (.bool (i == j)) H) : Op2 c (compareOp .Eq) (.int i) (.int j) H Q X := opI _ hq fun {A s R E ρ pu pv} va vb r => by obtain ⟨_, rfl⟩ := va.int_inv; obtain ⟨_, rfl⟩ := vb.int_inv; with_reducible refine eq_int ?_; exact r _ s.toks fun _ _ _ => .bool _
theorem op_ne (hq : Q (.bool (i != j)) H) : Op2 c (compareOp .NotEq) (.int i) (.int j) H Q X := opI _ hq fun {A s R E ρ pu pv} va vb r => by obtain ⟨_, rfl⟩ := va.int_inv; obtain ⟨_, rfl⟩ := vb.int_inv; with_reducible refine ne_int ?_; exact r _ s.toks fun _ _ _ => .bool _
theorem op_eqs (hq : Q (.bool (x == y)) H) : Op2 c (compareOp .Eq) (.str x) (.str y) H Q X := opI _ hq fun {A s R E ρ pu pv} va vb r => by obtain ⟨_, rfl⟩ := va.str_inv; obtain ⟨_, rfl⟩ := vb.str_inv; with_reducible refine eq_str ?_; exact r _ s.toks fun _ _ _ => .bool _
theorem op_nes (hq : Q (.bool (x != y)) H) : Op2 c (compareOp .NotEq) (.str x) (.str y) H Q X := opI _ hq fun {A s R E ρ pu pv} va vb r => by obtain ⟨_, rfl⟩ := va.str_inv; obtain ⟨_, rfl⟩ := vb.str_inv; with_reducible refine ne_str ?_; exact r _ s.toks fun _ _ _ => .bool _
theorem op_eqb (hq : Q (.bool (a == b)) H) : Op2 c (compareOp .Eq) (.bool a) (.bool b) H Q X := opI _ hq fun {A s R E ρ pu pv} va vb r => by obtain rfl := va.bool_inv; obtain rfl := vb.bool_inv; with_reducible refine eq_bool ?_; exact r _ s.toks fun _ _ _ => .bool _
theorem op_neb (hq : Q (.bool (a != b)) H) : Op2 c (compareOp .NotEq) (.bool a) (.bool b) H Q X := opI _ hq fun {A s R E ρ pu pv} va vb r => by obtain rfl := va.bool_inv; obtain rfl := vb.bool_inv; with_reducible refine ne_bool ?_; exact r _ s.toks fun _ _ _ => .bool _
theorem op_neg (hq : Q (.int (-i)) H) : Op1 c (unaryOp .USub) (.int i) H Q X := fun A ρ s a ak st va => by obtain ⟨_, rfl⟩ := va.int_inv; with_reducible refine neg_int ?_; exact ⟨ρ, H, _, Step.toks, st, .int _ _, hq⟩
/-- True, False as ints: (a > b) - (a < b) -/
theorem op_subb (hq : Q (.int (b2i a - b2i b)) H) : Op2 c (binaryOp .Sub) (.bool a) (.bool b) H Q X := opI _ hq fun va vb r => by obtain rfl := va.bool_inv; obtain rfl := vb.bool_inv; with_reducible refine sub_bool ?_; exact r _ _ fun _ _ _ => .int _ _

theorem strsOf {CB : Bx} {h : Heap} {ρ : Rho} : ∀ {ys : List Str} {vs : List Value}, VRs CB h ρ (ys.map V.str) vs → StrsAre vs ys
  | [], [], _ => .nil
  | _ :: _, _ :: _, r => by
    obtain ⟨r1, r2⟩ := r
    obtain ⟨_, rfl⟩ := r1.str_inv
    exact .cons _ _ (strsOf r2)
  | [], _ :: _, r => r.elim
  | _ :: _, [], r => r.elim
theorem op_inT {ys : List Str} (hq : Q (.bool (ys.any (· == x))) H) : Op2 c (compareOp .In) (.str x) (.tup (ys.map V.str)) H Q X := fun A ρ s pa pb ak st va vb => by
  obtain ⟨_, rfl⟩ := va.inv
  obtain ⟨vs, ta, rfl, ht, hl, hv⟩ := vb.tup_inv
  ·
    with_reducible refine in_tuple_strs ht (strsOf (VRs.of_get hl hv)) ?_
    exact ⟨ρ, H, _, Step.refl, st, .bool _, hq⟩

theorem addr_ne {B : Bx} {ρ : Rho} {h : Heap} (st : St B ρ H h) {q : Addr × Addr} (hq : q ∈ ρ) : (q.1 == sysModules) = false :=
  beq_false_of_ne (Nat.ne_of_gt (Nat.lt_of_le_of_lt (show sysModules ≤ 2 by decide) (st.lo q hq).2.2))

section dictops
variable {n : Nat} {k : Int} {ks : Str}
theorem op_inI {es : List (Int × V)} (hn : H[n]? = some (.dictI es)) (hq : Q (.bool (dget es k).isSome) H) : Op2 c (compareOp .In) (.int k) (.ref n) H Q X := fun A ρ s pa pb ak st va vb => by
  obtain ⟨_, rfl⟩ := va.inv
  obtain ⟨q, rfl, e⟩ := vb.ref_inv
  obtain ⟨-, kvs, hd, hr⟩ := st.ref hn e
  refine wpAny_in_of (intKind_is _ _ _ _) (addr_ne st (List.mem_of_getElem? e)) hd.mapOf ⟨ρ, H, _, Step.toks, st, .bool _, ?_⟩
  rw [(hr.get (k := k)).2]; exact hq
theorem op_ninI {es : List (Int × V)} (hn : H[n]? = some (.dictI es)) (hq : Q (.bool (!(dget es k).isSome)) H) : Op2 c (compareOp .NotIn) (.int k) (.ref n) H Q X := fun A ρ s pa pb ak st va vb => by
  obtain ⟨_, rfl⟩ := va.inv
  obtain ⟨q, rfl, e⟩ := vb.ref_inv
  obtain ⟨-, kvs, hd, hr⟩ := st.ref hn e
  refine wpAny_notIn_of (intKind_is _ _ _ _) (addr_ne st (List.mem_of_getElem? e)) hd.mapOf ⟨ρ, H, _, Step.toks, st, .bool _, ?_⟩
  rw [(hr.get (k := k)).2]; exact hq
theorem op_ninS {es : List (Str × V)} (hn : H[n]? = some (.dictS es)) (hq : Q (.bool (!(dget es ks).isSome)) H) : Op2 c (compareOp .NotIn) (.str ks) (.ref n) H Q X := fun A ρ s pa pb ak st va vb => by
  obtain ⟨_, rfl⟩ := va.inv
  obtain ⟨q, rfl, e⟩ := vb.ref_inv
  obtain ⟨-, kvs, hd, hr⟩ := st.ref hn e
  refine wpAny_notIn_of (strKind_is _ _ _ _) (addr_ne st (List.mem_of_getElem? e)) hd.mapOf ⟨ρ, H, _, Step.toks, st, .bool _, ?_⟩
  rw [(hr.get (k := ks)).2]; exact hq

/-! items -/
theorem it_tup {value slice : Expr} {xs : List V} {t : Nat} {v : V} (h0 : 0 ≤ k) (h1 : k < 1000000) (hx : xs[k.toNat]? = some v) (hq : Q v H)
    (hs : ∀ o i, subscripted slice false o i = operate [o, i] (getItem o i) := by intro _ _; with_unfolding_all rfl) : Op2 c (subscriptTail value slice) (.tup xs) (.int k) H Q X := fun A ρ s pa pb ak st va vb => by
  obtain ⟨_, rfl⟩ := vb.inv
  obtain ⟨vs, ta, rfl, ht, hl, hv⟩ := va.tup_inv
  ·
    have hk : k.toNat < xs.length := (List.getElem?_eq_some_iff.mp hx).1
    obtain ⟨pv, e1, e2⟩ := (VRs.of_get hl hv).exists_get hx
    exact item_tupleT ht (by lia) (by lia) (j := k.toNat) (seqIndex_of h0 (by lia)) e1 ⟨ρ, H, v, Step.refl, st, e2, hq⟩ (hs _ _)
theorem it_list {value slice : Expr} {xs : List V} {v : V} (hn : H[n]? = some (.list xs)) (h0 : 0 ≤ k) (h1 : k < 1000000) (hx : xs[k.toNat]? = some v) (hq : Q v H)
    (hs : ∀ o i, subscripted slice false o i = operate [o, i] (getItem o i) := by intro _ _; with_unfolding_all rfl) : Op2 c (subscriptTail value slice) (.ref n) (.int k) H Q X := fun A ρ s pa pb ak st va vb => by
  obtain ⟨_, rfl⟩ := vb.inv
  obtain ⟨q, rfl, e⟩ := va.ref_inv
  obtain ⟨-, vs, nn, hd, hr⟩ := st.ref hn e
  obtain ⟨pv, e1, e2⟩ := hr.exists_get hx
  exact tail_any ⟨_, hd, rfl⟩ slot_list_getitem.lookup (wpAny_getItem_list hd.isList h0 (by lia) (by simpa using e1) ⟨ρ, H, v, Step.refl, st, e2, hq⟩) (hs _ _)
theorem it_dictI {value slice : Expr} {es : List (Int × V)} {v : V} (hn : H[n]? = some (.dictI es)) (hx : dget es k = some v) (hq : Q v H)
    (hs : ∀ o i, subscripted slice false o i = operate [o, i] (getItem o i) := by intro _ _; with_unfolding_all rfl) : Op2 c (subscriptTail value slice) (.ref n) (.int k) H Q X := fun A ρ s pa pb ak st va vb => by
  obtain ⟨_, rfl⟩ := vb.inv
  obtain ⟨q, rfl, e⟩ := va.ref_inv
  obtain ⟨-, kvs, hd, hr⟩ := st.ref hn e
  obtain ⟨pv, e1, e2⟩ := (hr.get (k := k)).1 v hx
  exact tail_any hd.mapOf.typeIs slot_dict_getitem.lookup (wpAny_getItem_of (intKind_is _ _ _ _) hd.mapOf e1 ⟨ρ, H, v, Step.toks, st, e2, hq⟩) (hs _ _)
theorem it_dictS {value slice : Expr} {es : List (Str × V)} {v : V} (hn : H[n]? = some (.dictS es)) (hx : dget es ks = some v) (hq : Q v H)
    (hs : ∀ o i, subscripted slice false o i = operate [o, i] (getItem o i) := by intro _ _; with_unfolding_all rfl) : Op2 c (subscriptTail value slice) (.ref n) (.str ks) H Q X := fun A ρ s pa pb ak st va vb => by
  obtain ⟨_, rfl⟩ := vb.inv
  obtain ⟨q, rfl, e⟩ := va.ref_inv
  obtain ⟨-, kvs, hd, hr⟩ := st.ref hn e
  obtain ⟨pv, e1, e2⟩ := (hr.get (k := ks)).1 v hx
  exact tail_any hd.mapOf.typeIs slot_dict_getitem.lookup (wpAny_getItem_of (strKind_is _ _ _ _) hd.mapOf e1 ⟨ρ, H, v, Step.toks, st, e2, hq⟩) (hs _ _)

/-! stores into lists, dicts -/
theorem set_dictI {es : List (Int × V)} {v : V} {Q : HA → Prop} (hn : H[n]? = some (.dictI es)) (hz : es.length ≤ 100000) (hq : Q (H.set n (.dictI (dset es k v)))) : OpU3 c setItem (.ref n) (.int k) v H Q := fun A ρ s pa pb pd ak st va vb vd => by
  obtain ⟨_, rfl⟩ := vb.inv
  obtain ⟨q, rfl, e⟩ := va.ref_inv
  obtain ⟨hqq, kvs, hd, hr⟩ := st.ref hn e
  refine wpAny_setItem_pairs (intKind_is _ _ _ _) hd (fun h' hd' hs => ?_) (by have := hr.length; rw [sizeLine_eq]; lia)
  have kp : ∀ b o, s.heap.get? b = some o → b ≠ q.1 → b ≠ q.2 → h'.get? b = some o := fun b o e h1 _ => (hs.2 b h1).trans e
  have x1 : Step c.B none ρ s ρ { s with heap := h', toks := s.toks + 1 } := Step.upd st e kp (lv_one hqq hd'.choose_spec.choose_spec.choose_spec.1) rfl rfl
  refine ⟨ρ, _, x1, St.upd (s' := { s with heap := h', toks := s.toks + 1 }) (ob := .dictI (dset es k v)) st e kp rfl rfl ⟨hqq, _, hd', ?_⟩, hq⟩
  exact (hr.imp fun _ _ r => r.mono st .none x1).set (vd.mono st .none x1)
theorem set_dictS {es : List (Str × V)} {v : V} {Q : HA → Prop} (hn : H[n]? = some (.dictS es)) (hz : es.length ≤ 100000) (hq : Q (H.set n (.dictS (dset es ks v)))) : OpU3 c setItem (.ref n) (.str ks) v H Q := fun A ρ s pa pb pd ak st va vb vd => by
  obtain ⟨_, rfl⟩ := vb.inv
  obtain ⟨q, rfl, e⟩ := va.ref_inv
  obtain ⟨hqq, kvs, hd, hr⟩ := st.ref hn e
  refine wpAny_setItem_pairs (strKind_is _ _ _ _) hd (fun h' hd' hs => ?_) (by have := hr.length; rw [sizeLine_eq]; lia)
  have kp : ∀ b o, s.heap.get? b = some o → b ≠ q.1 → b ≠ q.2 → h'.get? b = some o := fun b o e h1 _ => (hs.2 b h1).trans e
  have x1 : Step c.B none ρ s ρ { s with heap := h', toks := s.toks + 1 } := Step.upd st e kp (lv_one hqq hd'.choose_spec.choose_spec.choose_spec.1) rfl rfl
  refine ⟨ρ, _, x1, St.upd (s' := { s with heap := h', toks := s.toks + 1 }) (ob := .dictS (dset es ks v)) st e kp rfl rfl ⟨hqq, _, hd', ?_⟩, hq⟩
  exact (hr.imp fun _ _ r => r.mono st .none x1).set (vd.mono st .none x1)
/-- a store into a list, exactly -/
theorem setItem_at {prog : Program} {w : World} {A : Around} {E : Value → Shared → Prop} {s : Shared} {l : Addr} {items : Array Value} {ne : Nat} {k : Int} {t : Tok} {v : Value} {Q : Unit → Shared → Prop} (hl : IsL s.heap l items ne)
    (h0 : 0 ≤ k) (hfit : k < 2 ^ 63) (hn : k < items.size) (hQ : Q () { s with heap := s.heap.update l (Obj.mapSeq (·.setIfInBounds k.toNat v)) }) :
    wpAny (model prog w) A (setItem (.ref l) (.int k t) v) Q E s := by
  have hT : s.TypeIs (.ref l) "list" := ⟨_, hl, rfl⟩
  unfold setItem
  refine wpAny_holding ?_
  refine wpAny_bind (wpAny_sequenceKey hT (by decide) ?_)
  refine wpAny_bind (wpAny_callSpecial?_slot (name := Str.ofString "__setitem__") hT slot_list_setitem (wpAny_call_entry slot_list_setitem hT entry_list_setitem ?_ (args_list_setitem _ _ _)))
  show wpAny _ _ (Builtin.List.listSubscript? (.int k t) >>= _) _ _ s
  refine wpAny_bind (wpAny_listSubscript_int (fitsIndex_of h0 hfit) ?_)
  clear hfit
  obtain ⟨j, rfl⟩ := Int.eq_ofNat_of_zero_le h0
  have hj : j < items.size := by lia
  have hx' : items[j]? = some items[j] := Array.getElem?_eq_getElem hj
  show wpAny _ _ ((seqItemAt l j >>= fun r => pure (r.map (j, ·))) >>= _) _ _ s
  refine wpAny_bind (wpAny_bind (wpAny_seqItemAt hl rfl (wpAny_pure ?_)))
  rw [hx']
  show wpAny _ _ (setSeqItemAt l j v >>= _) _ _ s
  refine wpAny_bind (wpAny_setSeqItemAt hl rfl ?_)
  first
    | exact wpAny_bind (wpAny_pure (wpAny_pure ⟨.none, rfl, wpAny_pure hQ⟩))
    | exact wpAny_pure ⟨.none, rfl, wpAny_pure hQ⟩
theorem set_list {xs : List V} {v : V} {Q : HA → Prop} (hn : H[n]? = some (.list xs)) (h0 : 0 ≤ k) (h1 : k.toNat < xs.length) (h2 : k < 1000000) (hq : Q (H.set n (.list (xs.set k.toNat v)))) : OpU3 c setItem (.ref n) (.int k) v H Q := fun A ρ s pa pb pd ak st va vb vd => by
  obtain ⟨_, rfl⟩ := vb.inv
  obtain ⟨q, rfl, e⟩ := va.ref_inv
  obtain ⟨hqq, vs, nn, hd, hr⟩ := st.ref hn e
  have hl := hr.length
  obtain ⟨j, rfl⟩ := Int.eq_ofNat_of_zero_le h0
  refine setItem_at hd (by lia) (by lia) (by simp at h1 ⊢; lia) ?_
  have kp : ∀ b o, s.heap.get? b = some o → b ≠ q.1 → b ≠ q.2 → (s.heap.update q.1 (Obj.mapSeq (·.setIfInBounds j pd))).get? b = some o := fun b o e h1 _ => (Heap.get?_update_other _ _ (Ne.symm h1)).trans e
  have x1 : Step c.B none ρ s ρ { s with heap := s.heap.update q.1 (Obj.mapSeq (·.setIfInBounds j pd)) } := Step.upd st e kp (lv_upd hqq hd rfl) rfl rfl
  refine ⟨ρ, _, x1, St.upd (s' := { s with heap := s.heap.update q.1 (Obj.mapSeq (·.setIfInBounds j pd)) }) (ob := .list (xs.set j v)) st e kp rfl rfl ⟨hqq, vs.set j pd, _, (by have := hd.update (·.setIfInBounds j pd); rwa [List.setIfInBounds_toArray] at this), ?_⟩, hq⟩
  · exact (hr.mono st .none x1).set j (vd.mono st .none x1)
end dictops
end ops
/-! ### PE -/
noncomputable def isBi : V → Bool
  | .bi _ => true
  | _ => false
noncomputable def fset (name : Str) (v : V) : List (Str × V) → List (Str × V)
  | [] => [(name, v)]
  | (x, w) :: r => if x == name then (x, v) :: r else (x, w) :: fset name v r
noncomputable def fget (name : Str) : List (Str × V) → Option V
  | [] => none
  | (x, w) :: r => if x == name then some w else fget name r

theorem inst_at {h : Heap} {x C dx : Addr} {es : List DictEntry} {n : Nat} (hx : h.get? x = some (instObj C dx)) (hdx : h.get? dx = some (dictOf es n)) : InstAt h x (instObj C dx) C (some (dictOf es n)) := ⟨hx, rfl, rfl, hdx⟩
section fields
variable {B : Bx} {h : Heap} {ρ : Rho} {name : Str}
theorem FldR.noref : ∀ {fs : List (Str × V)} {es : List DictEntry}, FldR B h ρ fs es → es.any (·.refKey) = false
  | [], [], _ => rfl
  | (x, v) :: fs, e :: es, r => by
    obtain ⟨⟨t, k⟩, _, r2⟩ := r
    rw [List.any_cons, FldR.noref r2, Bool.or_false]
    unfold DictEntry.refKey
    rw [k]
  | [], _ :: _, r => r.elim
  | (_, _) :: _, [], r => r.elim
theorem FldR.get : ∀ {fs : List (Str × V)} {es : List DictEntry}, FldR B h ρ fs es → match fget name fs with
    | some v => ∃ e, es.find? (·.key.isStr name) = some e ∧ VR B h ρ v e.val
    | none => es.find? (·.key.isStr name) = none
  | [], [], _ => rfl
  | (x, v) :: fs, e :: es, r => by
    obtain ⟨⟨t, k⟩, r1, r2⟩ := r
    have i := FldR.get r2
    by_cases q : (x == name) = true
    · simp only [fget, q, if_true, List.find?_cons, k, Value.isStr]
      exact ⟨e, rfl, r1⟩
    · have q' : (x == name) = false := by simpa using q
      simp only [fget, q', List.find?_cons, k, Value.isStr]
      exact i
  | [], _ :: _, r => r.elim
  | (_, _) :: _, [], r => r.elim
theorem FldR.getL {fs : List (Str × V)} {es : List DictEntry} (r : FldR B h ρ fs es) : (match fget name fs with
    | some v => ∃ pv, getL name es = some (some pv) ∧ VR B h ρ v pv
    | none => getL name es = some none) := by
  have i := r.get (name := name)
  unfold PySem.W.getL
  split
  · rename_i v q
    rw [q] at i
    obtain ⟨e, h1, h2⟩ := i
    rw [h1]
    exact ⟨_, rfl, h2⟩
  · rename_i q
    rw [q] at i
    rw [i]
    simp [r.noref]
theorem FldR.set {hsh : Int} {t : Tok} {v : V} {pv : Value} (q : VR B h ρ v pv) : ∀ {fs : List (Str × V)} {es : List DictEntry}, FldR B h ρ fs es → FldR B h ρ (fset name v fs) (putL name hsh (.str name t) pv es)
  | [], [], _ => ⟨⟨t, rfl⟩, q, trivial⟩
  | (x, w) :: fs, e :: es, r => by
    obtain ⟨⟨u, k⟩, r1, r2⟩ := r
    by_cases z : (x == name) = true
    · simp only [fset, z, if_true, putL, k, Value.isStr]
      exact ⟨⟨u, rfl⟩, q, r2⟩
    · have z' : (x == name) = false := by simpa using z
      simp only [fset, z', putL, k, Value.isStr]
      exact ⟨⟨u, k⟩, r1, FldR.set q r2⟩
  | [], _ :: _, r => r.elim
  | (_, _) :: _, [], r => r.elim
theorem FldR.length : ∀ {fs : List (Str × V)} {es : List DictEntry}, FldR B h ρ fs es → fs.length = es.length
  | [], [], _ => rfl
  | (_, _) :: _, _ :: _, r => by simp [FldR.length r.2.2]
  | [], _ :: _, r => r.elim
  | (_, _) :: _, [], r => r.elim
theorem putL_len (hsh : Int) (k v : Value) : ∀ es : List DictEntry, (putL name hsh k v es).length ≤ es.length + 1
  | [] => Nat.le_refl _
  | e :: r => by
    unfold putL
    split
    · simp
    · have := putL_len hsh k v r; simp only [List.length_cons]; lia
end fields

/-- what the class lets its instances do, plainly -/
noncomputable def readOk (K : Frag) (C : Addr) (name : Str) : Bool := plainGet K C name && hasDictIn K C && (findIn K (.ref C) name == some none)
noncomputable def storeOk (K : Frag) (C : Addr) (name : Str) : Bool := (findIn K (.ref C) "__setattr__" == some (some (.builtin "object.__setattr__"))) && plainOver K C && (takerIn K C name == some none) && hasDictIn K C

theorem osa_at {prog : Program} {w : World} {A : Around} {R : Result → Shared → Prop} {s : Shared} {K : Frag} {x C dx : Addr} {es : List DictEntry} {n : Nat} {name : Str} {tk : Tok} {v : Value}
    (X : K.In s.heap) (hx : s.heap.get? x = some (instObj C dx)) (hdx : s.heap.get? dx = some (dictOf es n)) (k2 : plainOver K C = true) (k3 : takerIn K C name = some none) (k4 : hasDictIn K C = true) (hr : es.any (·.refKey) = false) (hz : es.length ≤ 900)
    (h : R (.ok (.ret .none)) { s with heap := s.heap.update dx (Obj.putName name (PyData.keyHash w.params name) (.str name s.toks) v), toks := s.toks + 1 }) :
    codeAny (model prog w) A (.call (.builtin "object.__setattr__") ⟨[.ref x, .str name tk, v], []⟩) R s := by
  refine osa_open X (inst_at hx hdx) k2 k3 fun b => ?_
  obtain ⟨cd, hc, hd'⟩ := any_some k4
  refine wpAny_bind (wpAny_pure (wpAny_bind (wpAny_bind (wpAny_loadPart hx (wpAny_bind ((looks_clsIn X hc).here ?_))))))
  rw [hd']
  refine wpAny_pure (a := some dx) (wpAny_bind (wpAny_pure (wpAny_bind ?_)))
  unfold nsSet
  refine wpAny_bind (wpAny_bind (wpAny_askSetting (wpAny_pure (wpAny_bind (wpAny_mkText (wpAny_bind (wpAny_loadPart hdx ?_)))))))
  dsimp only
  have c : (!es.toArray.any (·.key.isStr name) && es.toArray.any (·.refKey)) = false := by
    rw [← Array.any_toList, ← Array.any_toList]
    simp [hr]
  rw [aRefKeyMayBeTheName_at, c]
  refine wpAny_updatePart hdx ?_
  have e : Obj.putName name (PyData.keyHash w.params name) (.str name s.toks) v (dictOf es n) = dictOf (putL name (PyData.keyHash w.params name) (.str name s.toks) v es) (putN name es n) := putName_dict ..
  have D' := Heap.get?_update_self (h := s.heap) (Obj.putName name (PyData.keyHash w.params name) (.str name s.toks) v) hdx (by rw [e]; rfl)
  refine wpAny_bind (wpAny_lookBehind D' (by
    rw [e]
    have := putL_len (name := name) (PyData.keyHash w.params name) (.str name s.toks) v es
    exact pastItsLine_dict (by rw [List.size_toArray, sizeLine_eq]; lia)) ?_)
  exact wpAny_pure h
theorem setAttr_at {prog : Program} {w : World} {A : Around} {E : Value → Shared → Prop} {s : Shared} {K : Frag} {x C dx : Addr} {es : List DictEntry} {n : Nat} {name : Str} {v : Value} {Q : Unit → Shared → Prop}
    (X : K.In s.heap) (hx : s.heap.get? x = some (instObj C dx)) (hdx : s.heap.get? dx = some (dictOf es n)) (hk : storeOk K C name = true) (hr : es.any (·.refKey) = false) (hz : es.length ≤ 900)
    (h : Q () { s with heap := s.heap.update dx (Obj.putName name (PyData.keyHash w.params name) (.str name (s.toks + 1)) v), toks := s.toks + 2 }) : wpAny (model prog w) A (setAttr (.ref x) name v) Q E s := by
  unfold storeOk at hk
  simp only [Bool.and_eq_true, beq_iff_eq] at hk
  obtain ⟨⟨⟨k1, k2⟩, k3⟩, k4⟩ := hk
  exact set_plain X (inst_at hx hdx) k1 (osa_at (s := { s with toks := s.toks + 1 }) X hx hdx k2 k3 k4 hr hz h)

section ops
variable {c : Cx} {H H' : HA} {X : Addr → HA → Prop} {Q : V → HA → Prop} {n : Nat} {C : Addr} {fs : List (Str × V)} {name : Str} {v : V}

theorem handed {B : Bx} {h : Heap} {ρ : Rho} {v : V} {pv : Value} (r : VR B h ρ v pv) (hb : isBi v = false) : handedIn pv = true := by
  cases r <;> first | rfl | cases hb

theorem op_get (hn : H[n]? = some (.inst C fs)) (hv : fget name fs = some v) (hk : readOk c.B.K C name = true) (hb : isBi v = false) (hq : Q v H) : Op1 c (GetF name) (.ref n) H Q X := fun A ρ s pa ak st va => by
  obtain ⟨q, rfl, e⟩ := va.ref_inv
  obtain ⟨ne, h1, es, k, h2, hf⟩ := st.ref hn e
  unfold readOk at hk
  simp only [Bool.and_eq_true, beq_iff_eq] at hk
  obtain ⟨⟨k1, k2⟩, k3⟩ := hk
  have i := hf.getL (name := name)
  rw [hv] at i
  obtain ⟨pv, hl, hr⟩ := i
  exact get_value st.K (inst_at h1 h2) (plainGet_of k1).1 (findObj_own k2 k3 rfl hl) (handed hr hb) ⟨ρ, H, v, Step.toks, st, hr, hq⟩
theorem op_set {Q : HA → Prop} (hn : H[n]? = some (.inst C fs)) (hk : storeOk c.B.K C name = true) (hz : fs.length ≤ 800) (hq : Q (H.set n (.inst C (fset name v fs)))) :
    OpU2 c (SetF name) (.ref n) v H Q := fun A ρ s pa pb ak st va vb => by
  obtain ⟨q, rfl, e⟩ := va.ref_inv
  obtain ⟨ne, h1, es, k, h2, hf⟩ := st.ref hn e
  have hl := hf.length
  refine setAttr_at st.K h1 h2 hk hf.noref (by lia) ?_
  have kp : ∀ b o, s.heap.get? b = some o → b ≠ q.1 → b ≠ q.2 → (s.heap.update q.2 (Obj.putName name (PyData.keyHash c.B.w.params name) (.str name (s.toks + 1)) pb)).get? b = some o := fun b o e _ h2 => (Heap.get?_update_other _ _ (Ne.symm h2)).trans e
  have e' : Obj.putName name (PyData.keyHash c.B.w.params name) (.str name (s.toks + 1)) pb (dictOf es k) = dictOf (putL name (PyData.keyHash c.B.w.params name) (.str name (s.toks + 1)) pb es) (putN name es k) := putName_dict ..
  have D' := Heap.get?_update_self (h := s.heap) (Obj.putName name (PyData.keyHash c.B.w.params name) (.str name (s.toks + 1)) pb) h2 (by rw [e']; rfl)
  have x1 : Step c.B none ρ s ρ { s with heap := s.heap.update q.2 (Obj.putName name (PyData.keyHash c.B.w.params name) (.str name (s.toks + 1)) pb), toks := s.toks + 2 } := Step.upd st e kp (fun b h => by
    rcases h with rfl | rfl
    · exact ⟨_, (Heap.get?_update_other _ _ ne.symm).trans h1⟩
    · exact ⟨_, D'⟩) rfl rfl
  refine ⟨ρ, _, x1, St.upd (s' := { s with heap := s.heap.update q.2 (Obj.putName name (PyData.keyHash c.B.w.params name) (.str name (s.toks + 1)) pb), toks := s.toks + 2 }) (ob := .inst C (fset name v fs)) st e kp rfl rfl ⟨ne, ?_, _, _, D'.trans (congrArg some e'), ?_⟩, hq⟩
  · exact (Heap.get?_update_other _ _ ne.symm).trans h1
  · exact (hf.imp fun _ _ r => r.mono st .none x1).set (vb.mono st .none x1)

/-! built-ins -/
theorem fn_len {xs : List V} (hn : H[n]? = some (.list xs)) (hz : xs.length < 1000000) (hq : Q (.int xs.length) H) : OpN c (fun vs => call (.builtin "len") vs) [.ref n] H Q X := fun A ρ s vs ak st va => by
  replace va := va.one; obtain ⟨pv, rfl, va⟩ := va
  obtain ⟨q, rfl, e⟩ := va.ref_inv
  obtain ⟨_, ws, k, h1, hr⟩ := st.ref hn e
  have hl := hr.length
  refine Calls.call_len_list h1.isList (by simp; lia) ⟨ρ, H, .int xs.length, Step.toks, st, ?_, hq⟩
  rw [hl]
  simpa using VR.int _ _
theorem fn_abs {i : Int} (hq : Q (.int (if i < 0 then -i else i)) H) : OpN c (fun vs => call (.builtin "abs") vs) [.int i] H Q X := fun A ρ s vs ak st va => by
  replace va := va.one; obtain ⟨pv, rfl, va⟩ := va
  obtain ⟨_, rfl⟩ := va.int_inv
  with_reducible refine call_abs_int ?_
  exact fun u tk => ⟨ρ, H, _, Step.toks, st, .int _ _, hq⟩
theorem fn_int {i : Int} (hq : Q (.int i) H) : OpN c (fun vs => call (.type "int") vs) [.int i] H Q X := fun A ρ s vs ak st va => by
  replace va := va.one; obtain ⟨pv, rfl, va⟩ := va
  obtain ⟨_, rfl⟩ := va.inv
  exact call_int_int ⟨ρ, H, _, Step.refl, st, .int _ _, hq⟩
theorem fn_isS {i : Int} (hq : Q (.bool false) H) : OpN c (fun vs => call (.builtin "isinstance") vs) [.int i, .ty "str"] H Q X := fun A ρ s vs ak st va => by
  replace va := va.two; obtain ⟨pv, pt, rfl, va, vb⟩ := va
  obtain ⟨_, rfl⟩ := va.inv
  obtain rfl := vb.inv
  exact kia_one (K := c.B.K) kitx_int st.K trivial (by kernel_rfl) (by intro e; cases e) fun tk => ⟨ρ, H, _, Step.toks, st, .bool _, hq⟩
theorem fn_isT {i : Int} (hq : Q (.bool false) H) : OpN c (fun vs => call (.builtin "isinstance") vs) [.int i, .ty "tuple"] H Q X := fun A ρ s vs ak st va => by
  replace va := va.two; obtain ⟨pv, pt, rfl, va, vb⟩ := va
  obtain ⟨_, rfl⟩ := va.inv
  obtain rfl := vb.inv
  exact kia_one (K := c.B.K) kitx_int st.K trivial (by kernel_rfl) (by intro e; cases e) fun tk => ⟨ρ, H, _, Step.toks, st, .bool _, hq⟩
end ops
/-! ### PF -/
/-! ### exceptions on their way -/
section exc
variable {B : Bx} {ρ : Rho} {H : HA} {s s' : Shared} {a : Addr}

/-- an exception with its traceback -/
inductive ExcTr (B : Bx) (h : Heap) (a : Addr) (fl : Value → Prop) : Prop
  | mk (o : Obj) (vs : Array Value) (T : Addr) (oT : Obj) (ts : Array Value) (f : Addr) (x : Value) : h.get? a = some o → o.cls = .ref B.CB → o.data = .fields vs → B.h0.get? a = none → vs[1]? = some (.ref T) → B.h0.get? T = none →
    (h.get? T = some oT ∧ oT.cls = .type "traceback" ∧ oT.data = .fields ts ∧ ts[1]? = some (.ref f) ∧ ts[3]? = some x ∧ fl x) → ExcTr B h a fl
theorem ExcTr.ok {h : Heap} {fl : Value → Prop} (e : ExcTr B h a fl) : ExcOk B h a fl := by
  obtain ⟨o, vs, T, oT, ts, f, x, h1, h2, h3, h4, h5, h6, h7⟩ := e
  exact ⟨o, vs, h1, h2, h3, h4, .inr ⟨T, oT, ts, f, x, h5, h6, h7⟩⟩

theorem ExcOk.mono {h : Heap} {fl fl' : Value → Prop} (e : ExcOk B h a fl) (i : ∀ x, fl x → fl' x) : ExcOk B h a fl' := by
  obtain ⟨o, vs, h1, h2, h3, h4, h5⟩ := e
  refine ⟨o, vs, h1, h2, h3, h4, h5.imp id ?_⟩
  rintro ⟨T, oT, ts, f, x, z0, z1, z2, z3, z4, z5, z6, z7⟩
  exact ⟨T, oT, ts, f, x, z0, z1, z2, z3, z4, z5, z6, i _ z7⟩

/-- an update of an exception or of a traceback -/
theorem Step.vol {b : Addr} {o : Obj} {vs : Array Value} {g : Array Value → Array Value} (st : St B ρ H s.heap) (hb : s.heap.get? b = some o) (hd : o.data = .fields vs) (hc : o.cls = .type "traceback" ∨ o.cls = .ref B.CB) (hl : B.h0.get? b = none)
    (h1 : ∀ x t, vs[1]? ≠ some (.str x t)) (hx : ∀ a, ExcAny B s.heap a → ExcAny B (s.heap.update b (Obj.mapFields g)) a) (eq : s' = { s with heap := s.heap.update b (Obj.mapFields g) }) :
    Step B none ρ s ρ s' ∧ St B ρ H s'.heap := by
  subst eq
  have od : Odd o := .inl ⟨_, hd⟩
  have off := st.off hb od
  have ne : ∀ b' o', s.heap.get? b' = some o' → b' ≠ b → (s.heap.update b (Obj.mapFields g)).get? b' = some o' := fun b' o' e n => (Heap.get?_update_other _ _ (Ne.symm n)).trans e
  have code : ∀ c q, s.heap.CodeRec c q → (s.heap.update b (Obj.mapFields g)).CodeRec c q := fun c q ⟨c', o', vs', t, e, z1, z2, z3⟩ => by
    refine ⟨c', o', vs', t, e, ne _ _ z1 (fun y => ?_), z2, z3⟩
    subst y
    rw [hb] at z1; cases z1
    rw [hd] at z2; cases z2
    exact h1 _ _ z3
  have x1 : Step B none ρ s ρ { s with heap := s.heap.update b (Obj.mapFields g) } := {
    pre := ⟨[], by simp, by simp⟩
    live := fun a' o' e => by
      by_cases q : a' = b
      · subst q; exact ⟨_, Heap.get?_update_self _ hb (Obj.isFreed_of_fields (Obj.data_mapFields hd g))⟩
      · exact ⟨o', ne _ _ e q⟩
    keepN := fun a' o' e f _ d => ⟨o'.slots, ne _ _ e fun y => by subst y; rw [hb] at e; cases e; exact d _ hd⟩
    keepL := fun _ _ _ z _ => nomatch z
    keepF := fun a' o' e f p _ c1 c2 => ne _ _ e fun y => by
      subst y; rw [hb] at e; cases e
      exact hc.elim c1 c2
    code := code
    exc := hx
    gens := rfl
    os := rfl }
  refine ⟨x1, ?_⟩
  exact {
    base := fun a' o' e => ne _ _ (st.base _ _ e) (fun y => by subst y; rw [hl] at e; cases e)
    tab := by
      obtain ⟨ps, t1, t2, t3⟩ := st.tab
      refine ⟨ps, ne _ _ t1 (fun y => ?_), t2, fun pq hp => (t3 pq hp).imp id ?_⟩
      · subst y
        rw [hb] at t1; cases t1
        rcases hc with hc | hc <;> cases hc
      · rintro ⟨c', z1, z2⟩; exact ⟨c', z1, code _ _ z2⟩
    len := st.len
    lo := st.lo
    apart := st.apart
    rel := fun n q ob e1 e2 => by
      have hq := off q (List.mem_of_getElem? e1)
      exact (st.rel n q ob e1 e2).imp (fun o e => ne _ _ e (Ne.symm hq.1)) (fun o e => ne _ _ e (Ne.symm hq.2)) (fun _ _ r => r.mono st .none x1) code fun _ _ e => e }

/-- frames made ready -/
theorem Step.slots {S : List Addr} (st : St B ρ H s.heap) (hS : ∀ b ∈ S, Off ρ b ∧ B.h0.get? b = none ∧ ∃ o, s.heap.get? b = some o ∧ ∀ vs, o.data ≠ .fields vs) {h' : Heap} (x : Heap.SlotsOnly S s.heap h') :
    Step B none ρ s ρ { s with heap := h' } ∧ St B ρ H h' := by
  have fk : ∀ b o vs, s.heap.get? b = some o → o.data = .fields vs → h'.get? b = some o := fun b o vs e d => (x.2.1 b fun hb => by
    obtain ⟨_, _, o', e', n⟩ := hS b hb
    rw [e] at e'; cases e'; exact n _ d).trans e
  have x1 : Step B none ρ s ρ { s with heap := h' } := {
    pre := ⟨[], by simp, by simp⟩
    live := fun a' o' e => let ⟨_, h⟩ := x.2.2 _ _ e; ⟨_, h⟩
    keepN := fun a' o' e f _ d => x.2.2 _ _ e
    keepL := fun _ _ _ z _ => nomatch z
    keepF := (by rintro a' o' e f p ⟨vs, d⟩ c1 c2; exact fk _ _ _ e d)
    code := fun _ _ z => code_keep fk z
    exc := fun _ z => exc_keep fk z
    gens := rfl
    os := rfl }
  refine ⟨x1, ?_⟩
  exact {
    base := fun a' o' e => (x.2.1 _ fun hb => by
      have := (hS _ hb).2.1
      rw [e] at this; cases this).trans (st.base _ _ e)
    tab := st.tab.keep fk
    len := st.len
    lo := st.lo
    apart := st.apart
    rel := fun n q ob e1 e2 => by
      have hq := List.mem_of_getElem? e1
      exact (st.rel n q ob e1 e2).imp (fun o e => (x.2.1 _ fun hb => ((hS _ hb).1 q hq).1 rfl).trans e) (fun o e => (x.2.1 _ fun hb => ((hS _ hb).1 q hq).2 rfl).trans e) (fun _ _ r => r.mono st .none x1) (fun _ _ z => code_keep fk z) fun _ _ e => e }

theorem FrOk.fun {l : List Env} {h : Heap} (hl : ∀ e ∈ l, FrOk B ρ h e) : h.FunFrames B.h0 l := by
  induction l with
  | nil => trivial
  | cons e l ih =>
    obtain ⟨k, L, o, h1, h2, h3, h4, h5⟩ := hl e (.head _)
    refine ⟨by rw [k]; decide, ⟨L, o, h1, ?_, h3, h4⟩, ih fun e' he => hl e' (.tail _ he)⟩
    exact h2
theorem FrOk.mem {l : List Env} {h : Heap} (hl : ∀ e ∈ l, FrOk B ρ h e) : ∀ b ∈ l.filterMap (·.frame), Off ρ b ∧ B.h0.get? b = none ∧ ∃ o, h.get? b = some o ∧ ∀ vs, o.data ≠ .fields vs := fun b hb => by
  obtain ⟨e, he, hf⟩ := List.mem_filterMap.mp hb
  obtain ⟨k, L, o, h1, h2, h3, h4, h5⟩ := hl e he
  rw [h1] at hf; cases hf
  exact ⟨h5, h2, o, h3, h4⟩

theorem getSet {vs : Array Value} {i j : Nat} {v x : Value} (h : vs[j]? = some x) (ne : i ≠ j) : (vs.setIfInBounds i v)[j]? = some x := by
  rw [Array.getElem?_setIfInBounds_ne ne]; exact h
theorem getSetS {vs : Array Value} {i : Nat} {v x : Value} (h : vs[i]? = some x) : (vs.setIfInBounds i v)[i]? = some v := by
  have := (Array.getElem?_eq_some_iff.mp h).1
  rw [Array.getElem?_setIfInBounds_self_of_lt this]

/-- the traceback's mark changes -/
theorem mark_any {h : Heap} {T : Addr} {oT : Obj} {ts : Array Value} {f x y : Value} (hT : h.get? T = some oT) (hc : oT.cls = .type "traceback") (hd : oT.data = .fields ts) (h1 : ts[1]? = some f) (h3 : ts[3]? = some x) :
    ∀ a, ExcAny B h a → ExcAny B (h.update T (Obj.mapFields (·.setIfInBounds 3 y))) a := fun a ⟨o, vs, z1, z2, z3, z0, z4⟩ => by
  have ne : a ≠ T := fun e => by subst e; rw [hT] at z1; cases z1; rw [hc] at z2; cases z2
  refine ⟨o, vs, (Heap.get?_update_other _ _ (Ne.symm ne)).trans z1, z2, z3, z0, z4.imp id ?_⟩
  rintro ⟨T', oT', ts', f', x', g1, g0, g2, g3, g4, g5, g6, _⟩
  by_cases q : T' = T
  · subst q
    rw [hT] at g2; cases g2
    rw [hd] at g4; cases g4
    have e := Obj.data_mapFields hd (·.setIfInBounds 3 y)
    exact ⟨T', _, _, f', y, g1, g0, Heap.get?_update_self _ hT (Obj.isFreed_of_fields e), (Obj.cls_mapFields _ _).trans hc, e, getSet g5 (by decide), getSetS g6, trivial⟩
  · exact ⟨T', oT', ts', f', x', g1, g0, (Heap.get?_update_other _ _ (Ne.symm q)).trans g2, g3, g4, g5, g6, trivial⟩

/-- a mark is set -/
theorem mark_exc {A : Around} {E : Value → Shared → Prop} {fl : Value → Prop} {y : Value} {Q : Unit → Shared → Prop} (st : St B ρ H s.heap) (e : ExcTr B s.heap a fl)
    (hQ : ∀ s', Step B none ρ s ρ s' → St B ρ H s'.heap → ExcTr B s'.heap a (fun x => x = y) → Q () s') (T : Addr) (vs : Array Value) (o : Obj) (ho : s.heap.get? a = some o) (hd : o.data = .fields vs) (h1 : vs[1]? = some (.ref T)) :
    wpAny B.M A (setField (.ref T) 3 y) Q E s := by
  obtain ⟨o', vs', T', oT, ts, f, x, z1, z2, z3, z4, z5, z6, z7, z8, z9, z10, z11, z12⟩ := e
  rw [ho] at z1; cases z1
  rw [hd] at z3; cases z3
  rw [h1] at z5; cases z5
  refine wpAny_setField z7 z9 (Array.getElem?_eq_some_iff.mp z11).1 ?_
  obtain ⟨x1, st1⟩ := Step.vol (s' := { s with heap := s.heap.update T (Obj.mapFields (·.setIfInBounds 3 y)) }) st z7 z9 (.inl z8) z6 (fun x t q => by rw [z10] at q; cases q) (mark_any z7 z8 z9 z10 z11) rfl
  refine hQ _ x1 st1 ?_
  have ne : a ≠ T := fun q => by subst q; rw [ho] at z7; cases z7; rw [z8] at z2; cases z2
  have e := Obj.data_mapFields z9 (·.setIfInBounds 3 y)
  exact ⟨o, vs, T, _, _, f, y, (Heap.get?_update_other _ _ (Ne.symm ne)).trans ho, z2, hd, z4, h1, z6, Heap.get?_update_self _ z7 (Obj.isFreed_of_fields e), (Obj.cls_mapFields _ _).trans z8, e, getSet z10 (by decide), getSetS z11, rfl⟩

theorem flight_exc {A : Around} {E : Value → Shared → Prop} {fl : Value → Prop} {fr : Option Addr} {Q : Unit → Shared → Prop} (st : St B ρ H s.heap) (e : ExcTr B s.heap a fl)
    (hQ : ∀ s', Step B none ρ s ρ s' → St B ρ H s'.heap → ExcTr B s'.heap a (fun x => x = fr.elim .none fun f => rawInt f) → Q () s') : wpAny B.M A (setFlight (.ref a) fr) Q E s := by
  obtain ⟨o, vs, T, oT, ts, f, x, z1, z2, z3, z4, z5, z⟩ := id e
  unfold setFlight
  refine wpAny_bind (wpAny_field z1 z3 z5 ?_)
  rw [if_pos (show (Value.ref T != Value.none) = true from by simp)]
  exact mark_exc st e hQ T vs o z1 z3 z5
/-- setFlight e none where the traceback may lack -/
theorem unflight_exc {A : Around} {E : Value → Shared → Prop} {fl : Value → Prop} {Q : Unit → Shared → Prop} (st : St B ρ H s.heap) (e : ExcOk B s.heap a fl)
    (hQ : ∀ s', Step B none ρ s ρ s' → St B ρ H s'.heap → ExcOk B s'.heap a (fun x => x = .none) → Q () s') : wpAny B.M A (setFlight (.ref a) none) Q E s := by
  obtain ⟨o, vs, h1, h2, h3, h0, h4⟩ := e
  rcases h4 with h4 | ⟨T, oT, ts, f, x, z⟩
  · unfold setFlight
    refine wpAny_bind (wpAny_field h1 h3 h4 ?_)
    rw [if_neg (by decide)]
    exact wpAny_pure (hQ _ Step.refl st ⟨o, vs, h1, h2, h3, h0, .inl h4⟩)
  · exact flight_exc st ⟨o, vs, T, oT, ts, f, x, h1, h2, h3, h0, z.1, z.2.1, z.2.2⟩ fun s' x1 st1 e1 => hQ s' x1 st1 e1.ok

/-- a new entry -/
theorem entry_exc {A : Around} {E : Value → Shared → Prop} {env : Env} {l : List Env} {F : Addr} {hn : Bool} {head : Value} {o : Obj} {vs : Array Value} {Q : Unit → Shared → Prop} (st : St B ρ H s.heap) (hA : A.frames = some (env :: l)) (hl : ∀ e ∈ env :: l, FrOk B ρ s.heap e) (hF : env.frame = some F)
    (ho : s.heap.get? a = some o) (hc : o.cls = .ref B.CB) (hd : o.data = .fields vs) (hlo : B.h0.get? a = none) (h1 : (∃ T, vs[1]? = some (.ref T)) ∨ vs[1]? = some .none)
    (hQ : ∀ s', Step B none ρ s ρ s' → St B ρ H s'.heap → ExcTr B s'.heap a (fun x => x = rawInt F) → Q () s') :
    wpAny B.M A (do setField (.ref a) 1 (← EntryCells.newEntry head (← frameOf env) .none (rawInt F) .none (← entryPlaceOf F hn))) Q E s := by
  refine wpAny_bind (wpAny_frameOf_fun hA (FrOk.fun hl) hF fun h₁ hs₁ => ?_)
  obtain ⟨x1, st1⟩ := Step.slots (s := s) st (FrOk.mem hl) hs₁
  refine wpAny_bind (wpAny_entryPlaceOf fun pl hpl => ?_)
  unfold EntryCells.newEntry newFields
  refine wpAny_bind (wpAny_newObj_type ?_ (hpl.sizeOk5 _ _ _ _ _))
  have ha : a ∉ (env :: l).filterMap (·.frame) := fun hb => by
    obtain ⟨_, _, o', e', n⟩ := FrOk.mem hl a hb
    rw [ho] at e'; cases e'; exact n _ hd
  have ho₁ : h₁.get? a = some o := (hs₁.2.1 a ha).trans ho
  generalize hnw : ({ cls := .type "traceback", dict := none, data := .fields ([head, .ref F, .none, rawInt F, .none] ++ (if pl.isEmpty then List.replicate 6 Value.none else pl)).toArray } : Obj) = nw
  have hnd : nw.data = .fields ([head, .ref F, .none, rawInt F, .none] ++ (if pl.isEmpty then List.replicate 6 Value.none else pl)).toArray := by rw [← hnw]
  have hncl : nw.cls = .type "traceback" := by rw [← hnw]
  have k2 : ∀ b o, h₁.get? b = some o → (h₁.push nw).get? b = some o := fun b o e => Heap.get?_push_of_some _ e
  have x2 : Step B none ρ { s with heap := h₁ } ρ { s with heap := h₁.push nw } := Step.ext k2 rfl rfl
  have st2 : St B ρ H (h₁.push nw) := St.ext (s := { s with heap := h₁ }) (s' := { s with heap := h₁.push nw }) st1 k2 rfl rfl
  have hT : (h₁.push nw).get? h₁.objs.size = some nw := Heap.get?_push_size _ (Obj.isFreed_of_fields hnd)
  have ho₂ := k2 _ _ ho₁
  have hsz : 1 < vs.size := by rcases h1 with ⟨T, h⟩ | h <;> exact (Array.getElem?_eq_some_iff.mp h).1
  refine wpAny_setField ho₂ hd hsz ?_
  have hTa : h₁.objs.size ≠ a := Nat.ne_of_gt (Heap.lt_size ho₁)
  have e3 := Obj.data_mapFields hd (·.setIfInBounds 1 (Value.ref h₁.objs.size))
  have ga := Heap.get?_update_self (h := h₁.push nw) (Obj.mapFields (·.setIfInBounds 1 (Value.ref h₁.objs.size))) ho₂ (Obj.isFreed_of_fields e3)
  have gT : ((h₁.push nw).update a (Obj.mapFields (·.setIfInBounds 1 (Value.ref h₁.objs.size)))).get? h₁.objs.size = some nw := (Heap.get?_update_other _ _ (Ne.symm hTa)).trans hT
  have lT : B.h0.get? h₁.objs.size = none := dead_of (fun a o e => ⟨o, st1.base a o e⟩) (Heap.get?_none_of_le (Nat.le_refl _))
  have tr : ExcTr B ((h₁.push nw).update a (Obj.mapFields (·.setIfInBounds 1 (Value.ref h₁.objs.size)))) a (fun x => x = rawInt F) :=
    ⟨_, _, h₁.objs.size, nw, _, F, rawInt F, ga, (Obj.cls_mapFields _ _).trans hc, e3, hlo, by rw [Array.getElem?_setIfInBounds_self_of_lt hsz], lT, gT, hncl, hnd, by simp, by simp, rfl⟩
  obtain ⟨x3, st3⟩ := Step.vol (s := { s with heap := h₁.push nw }) (s' := { s with heap := (h₁.push nw).update a (Obj.mapFields (·.setIfInBounds 1 (Value.ref h₁.objs.size))) }) st2 ho₂ hd (.inr hc) hlo
    (fun x t q => by rcases h1 with ⟨T, h⟩ | h <;> (rw [h] at q; cases q)) (fun a' r => by
      by_cases q : a' = a
      · subst q; exact tr.ok.mono fun _ _ => trivial
      · obtain ⟨o', vs', z1, z2, z3, z0, z4⟩ := r
        refine ⟨o', vs', (Heap.get?_update_other _ _ (Ne.symm q)).trans z1, z2, z3, z0, z4.imp id ?_⟩
        rintro ⟨T', oT', ts', f', x', g1, g0, g2, g3, g4, g⟩
        refine ⟨T', oT', ts', f', x', g1, g0, (Heap.get?_update_other _ _ (fun y => ?_)).trans g2, g3, g4, g⟩
        subst y
        rw [ho₂] at g2; cases g2
        rw [hc] at g3; cases g3) rfl
  exact hQ _ ((x1.trans x2).trans x3) st3 tr

/-- a frame notes an exception -/
theorem note_exc {A : Around} {E : Value → Shared → Prop} {env : Env} {l : List Env} {F : Addr} {Q : Unit → Shared → Prop} (st : St B ρ H s.heap) (hA : A.frames = some (env :: l)) (hl : ∀ e ∈ env :: l, FrOk B ρ s.heap e) (hF : env.frame = some F)
    (e : ExcOk B s.heap a (fun x => x = .none ∨ x = rawInt F))
    (hQ : ∀ s', Step B none ρ s ρ s' → St B ρ H s'.heap → ExcTr B s'.heap a (fun x => x = rawInt F) → Q () s') : wpAny B.M A (noteFrame (.ref a) env) Q E s := by
  obtain ⟨o, vs, h1, h2, h3, h0, h4⟩ := e
  rcases h4 with h4 | ⟨T, oT, ts, f, x, z1, z0, z2, z3, z4, z5, z6, z7⟩
  · unfold noteFrame
    simp only [hF]
    refine wpAny_bind (wpAny_field h1 h3 h4 ?_)
    rw [if_neg (by decide)]
    exact entry_exc st hA hl hF h1 h2 h3 h0 (.inr h4) hQ
  · rcases z7 with rfl | rfl
    · unfold noteFrame
      simp only [hF]
      refine wpAny_bind (wpAny_field h1 h3 z1 ?_)
      rw [if_pos (show (Value.ref T != Value.none) = true from by simp)]
      refine wpAny_bind (wpAny_field z2 z4 z6 ?_)
      rw [if_neg (show ¬ ((Value.none == rawInt F) = true) from by simp [rawInt])]
      refine wpAny_bind (mark_exc (y := .none) st ⟨o, vs, T, oT, ts, f, _, h1, h2, h3, h0, z1, z0, z2, z3, z4, z5, z6, rfl⟩ (fun s1 x1 st1 e1 => ?_) T vs o h1 h3 z1)
      obtain ⟨o', vs', T', oT', ts', f', x', g1, g2, g3, g4, g5, _⟩ := e1
      exact entry_exc st1 hA (fun e he => (hl e he).mono (c := ⟨B, none, 0⟩) x1) hF g1 g2 g3 g4 (.inl ⟨_, g5⟩) fun s2 x2 st2 e2 => hQ s2 (x1.trans x2) st2 e2
    · refine wpAny_noteFrame_inFlight hF h1 h3 z1 z2 z4 z6 (hQ _ Step.refl st ⟨o, vs, T, oT, ts, f, _, h1, h2, h3, h0, z1, z0, z2, z3, z4, z5, z6, rfl⟩)
/-- an exception leaves a frame -/
theorem leave_exc {A : Around} {E : Value → Shared → Prop} {env : Env} {l : List Env} {F : Addr} {Q : Unit → Shared → Prop} (st : St B ρ H s.heap) (hA : A.frames = some (env :: l)) (hl : ∀ e ∈ env :: l, FrOk B ρ s.heap e) (hF : env.frame = some F)
    (e : ExcOk B s.heap a (fun x => x = .none ∨ x = rawInt F))
    (hQ : ∀ s', Step B none ρ s ρ s' → St B ρ H s'.heap → ExcTr B s'.heap a (fun x => x = .none) → Q () s') : wpAny B.M A (leaving env (.ref a)) Q E s := by
  unfold leaving
  exact wpAny_bind (note_exc st hA hl hF e fun s1 x1 st1 e1 => flight_exc (fr := none) st1 e1 fun s2 x2 st2 e2 => hQ s2 (x1.trans x2) st2 e2)
end exc
/-! ### PG -/
/-! ### calls -/
noncomputable def KeptAs (pf : Value) (h : Heap) : Prop := ∀ M : Model, ∃ k, (k = Keeper.frame ∨ k = Keeper.machine ∨ k = Keeper.boundFrame) ∧ Looks M h (keeperOf pf) k
noncomputable def CalleeOk (c : Cx) (fv : V) (H : HA) : Prop := ∀ ρ h pf, St c.B ρ H h → VR c.B h ρ fv pf → KeptAs pf h
noncomputable def CallW (c : Cx) (fv : V) (xs : List V) (H : HA) (Q : V → HA → Prop) (X : Addr → HA → Prop) : Prop :=
  ∀ A ρ s pf vs, AOk c A ρ s.heap → St c.B ρ H s.heap → VR c.B s.heap ρ fv pf → VRs c.B s.heap ρ xs vs → wpAny c.B.M A (call pf vs) (OpQ c.B ρ s Q) (RzO c.B ρ s X) s

section
variable {c : Cx} {fa : FrA} {m m' : LM} {H H' : HA} {X : Addr → LM → HA → Prop} {XO : Addr → HA → Prop} {Q : V → HA → Prop}

theorem keep_bi {n : String} : CalleeOk c (.bi n) H := fun ρ h pf st r M => by obtain rfl := r.inv; exact ⟨.machine, .inr (.inl rfl), Looks.of_pure rfl⟩
theorem keep_ty {n : String} : CalleeOk c (.ty n) H := fun ρ h pf st r M => by obtain rfl := r.inv; exact ⟨.machine, .inr (.inl rfl), Looks.of_pure rfl⟩
theorem keep_K {f : Addr} (hk : keepIn c.B.K (.ref f) = true) : CalleeOk c (.glob f) H := fun ρ h pf st r M => by obtain rfl := r.inv; exact keeps_K hk h st.K
theorem keep_clo {n : Nat} {d : CloD} (hn : H[n]? = some (.clo d)) : CalleeOk c (.ref n) H := fun ρ h pf st r M => by
  obtain ⟨_, rfl, e⟩ := r.ref_inv
  obtain ⟨_, clos, doc, pm, c', ctv, h1, _⟩ := st.ref hn e
  exact keeps_F (M := M) h ⟨_, _, _, _, h1⟩
theorem CallW.ofN {fv : V} {pf : Value} {xs : List V} (hf : ∀ h ρ pv, VR c.B h ρ fv pv → pv = pf) (h : OpN c (fun vs => call pf vs) xs H Q XO) : CallW c fv xs H Q XO := fun A ρ s pf' vs ak st vf va => by
  cases hf _ _ _ vf
  exact h A ρ s vs ak st va
theorem CallW.bi {n : String} {xs : List V} (h : OpN c (fun vs => call (.builtin n) vs) xs H Q XO) : CallW c (.bi n) xs H Q XO := .ofN (fun _ _ _ r => r.inv) h
theorem CallW.ty {n : String} {xs : List V} (h : OpN c (fun vs => call (.type n) vs) xs H Q XO) : CallW c (.ty n) xs H Q XO := .ofN (fun _ _ _ r => r.inv) h
theorem CallW.glob {f : Addr} {xs : List V} (h : OpN c (fun vs => call (.ref f) vs) xs H Q XO) : CallW c (.glob f) xs H Q XO := .ofN (fun _ _ _ r => r.inv) h
theorem args_of {M : Model} {A : Around} {E : Value → Shared → Prop} {s : Shared} {f : Value} {Q : Args → Shared → Prop} : ∀ {trees : List (Bool × Sem Value)}, trees.all (fun x => !x.1) = true → wpAny M A (spliced trees) (fun vs s' => Q ⟨vs, []⟩ s') E s → wpAny M A (evalArgs f true trees []) Q E s
  | [], _, h => by
    unfold evalArgs
    show wpAny M A (spliced [] >>= _) Q E s
    refine wpAny_bind (wpAny_mono h (fun vs s' h' => ?_) fun _ _ x => x)
    refine wpAny_bind (wpAny_pure ?_)
    refine wpAny_holding ?_
    exact wpAny_bind (wpAny_pure (wpAny_bind (wpAny_pure (wpAny_pure h'))))
  | (false, x) :: rest, _, h => Calls.evalArgs_plain h
  | (true, x) :: rest, hp, _ => by simp at hp

noncomputable def plainArgs (es : List Expr) : Prop := ∀ (env : Env) (pos : Pos), (backTo pos (starEach es env)).all (fun x => !x.1) = true

theorem with_call {pf : Value} {first : List Value} {es : List Expr} {pos : Pos} {A : Around} {env : Env} {s : Shared} {R : Value → Shared → Prop} {E : Value → Shared → Prop} (hp : plainArgs es)
    (h : wpAny c.B.M A (spliced (backTo pos (starEach es env))) (fun vs s₁ => KeptAs pf s₁.heap ∧ wpAny c.B.M A (call pf (first ++ vs)) R E s₁) E s) :
    wpAny c.B.M A (callWith pos pf first (backTo pos (starEach es env)) []) R E s := by
  have hp' : ((backTo pos (starEach es env)).any (·.1) || ([] : List (Option Str × Sem Value)).any (·.1.isNone)) = false := by
    have := hp env pos
    rw [List.any_nil, Bool.or_false]
    rw [List.all_eq_true] at this
    rw [List.any_eq_false]
    intro x hx
    have := this x hx
    simpa using this
  exact callWith_of (P := KeptAs pf) hp' (fun h k => k c.B.M) (args_of (hp env pos) h)

noncomputable abbrev CalK2 (c : Cx) (m : LM) (fv : V) (Q : V → HA → Prop) (X : Addr → LM → HA → Prop) : List V → HA → Prop := fun xs H2 => CalleeOk c fv H2 ∧ CallW c fv xs H2 Q (ofO X m)
noncomputable abbrev CalK (c : Cx) (fa : FrA) (es : List Expr) (m : LM) (Q : V → HA → Prop) (X : Addr → LM → HA → Prop) : V → HA → Prop := fun fv H1 => ArW c fa es m H1 (CalK2 c m fv Q X) X
theorem ev_call {f : Expr} {es : List Expr} {pos : Pos} (h : EvW c fa f m H (CalK c fa es m Q X) X)
    (he : ∀ env, eval (.Call f es [] pos) env = (do callWith pos (← eval f env) [] (backTo pos (starEach es env)) []) := by intro _; with_unfolding_all rfl) (hp : plainArgs es := by unfold plainArgs; intro _ _; with_unfolding_all rfl) : EvW c fa (.Call f es [] pos) m H Q X := fun A env L ρ s k => by
  rw [he]
  refine wpAny_bind (wpAny_mono (h A env L ρ s k) ?_ fun _ _ r => r)
  rintro pf s₁ ⟨ρ₁, H₁, fv, x1, st1, l1, vf, h1⟩
  have k1 := k.next x1 st1 l1
  refine with_call hp (wpAny_mono (h1 A env L ρ₁ s₁ pos k1) ?_ fun _ _ r => r.after x1)
  rintro vs s₂ ⟨ρ₂, H₂, xs, x2, st2, l2, vv, hk, h2⟩
  have k2 := k1.next x2 st2 l2
  have vf2 := vf.mono st1 l1.lx x2
  refine ⟨hk ρ₂ _ pf st2 vf2, ?_⟩
  exact wpAny_mono (op_in k2 (h2 A ρ₂ s₂ pf vs k2.ak st2 vf2 vv)) (by rintro pv s₃ ⟨ρ₃, H₃, v, x3, st3, l3, v3, q⟩; exact ⟨ρ₃, H₃, v, (x1.trans x2).trans x3, st3, l3, v3, q⟩) fun _ _ r => r.after (x1.trans x2)

/-! methods -/
noncomputable def MethOk (c : Cx) (ov : V) (name : Str) (H : HA) (fv : V) : Prop := ∀ A ρ s pv (pl : Sem Bool) (E : Value → Shared → Prop) (R : Value × List Value → Shared → Prop), St c.B ρ H s.heap → VR c.B s.heap ρ ov pv →
  ∃ pf, (∀ h ρ, VR c.B h ρ fv pf) ∧ (∀ h, c.B.K.In h → KeptAs pf h) ∧ (R (pf, [pv]) s → wpAny c.B.M A (getMethod pv name pl) R E s)
noncomputable abbrev MthK2 (c : Cx) (m : LM) (fv ov : V) (Q : V → HA → Prop) (X : Addr → LM → HA → Prop) : List V → HA → Prop := fun xs H2 => CallW c fv (ov :: xs) H2 Q (ofO X m)
noncomputable abbrev MthK (c : Cx) (fa : FrA) (name : Str) (es : List Expr) (m : LM) (Q : V → HA → Prop) (X : Addr → LM → HA → Prop) : V → HA → Prop := fun ov H1 => ∃ fv, MethOk c ov name H1 fv ∧ ArW c fa es m H1 (MthK2 c m fv ov Q X) X
theorem ev_meth {o : Expr} {name : Str} {es : List Expr} {apos pos : Pos} {pl : Env → Sem Bool} (h : EvW c fa o m H (MthK c fa name es m Q X) X)
    (he : ∀ env, eval (.Call (.Attribute o name apos) es [] pos) env = (do
      let ov ← eval o env
      standAt apos.atName
      let (f, first) ← holding [ov] (getMethod ov name (pl env))
      callWith pos f first (backTo pos (starEach es env)) []) := by intro _; with_unfolding_all rfl) (hp : plainArgs es := by unfold plainArgs; intro _ _; with_unfolding_all rfl) : EvW c fa (.Call (.Attribute o name apos) es [] pos) m H Q X := fun A env L ρ s k => by
  refine MethodCall_ (wpAny_mono (h A env L ρ s k) ?_ fun _ _ r => r) (he env)
  rintro pv s₁ ⟨ρ₁, H₁, ov, x1, st1, l1, vo, fv, hm, h1⟩
  have k1 := k.next x1 st1 l1
  obtain ⟨pf, vf, hk, hg⟩ := hm A ρ₁ s₁ pv (pl env) _ _ st1 vo
  refine hg (with_call (first := [pv]) hp (wpAny_mono (h1 A env L ρ₁ s₁ pos k1) ?_ fun _ _ r => r.after x1))
  rintro vs s₂ ⟨ρ₂, H₂, xs, x2, st2, l2, vv, h2⟩
  have k2 := k1.next x2 st2 l2
  refine ⟨hk _ st2.K, ?_⟩
  exact wpAny_mono (op_in k2 (h2 A ρ₂ s₂ pf (pv :: vs) k2.ak st2 (vf _ _) (VRs.cons (vo.mono st1 l1.lx x2) vv))) (by rintro pv s₃ ⟨ρ₃, H₃, v, x3, st3, l3, v3, q⟩; exact ⟨ρ₃, H₃, v, (x1.trans x2).trans x3, st3, l3, v3, q⟩) fun _ _ r => r.after (x1.trans x2)

theorem meth_list {n : Nat} {xs : List V} {name : Str} {id : String} (hn : H[n]? = some (.list xs)) (slot : Slot "list" name id) (hty : typeOf (.builtin id) = pure (.type "method_descriptor")) : MethOk c (.ref n) name H (.bi id) := fun A ρ s pv pl E R st vo => by
  obtain ⟨q, rfl, e⟩ := vo.ref_inv
  obtain ⟨_, vs, k, h1, _⟩ := st.ref hn e
  exact ⟨.builtin id, fun _ _ => .bi id, fun h _ M => ⟨.machine, .inr (.inl rfl), Looks.of_pure rfl⟩, fun r => getMethod_list_of slot hty h1.isList ⟨_, h1, rfl⟩ r⟩

noncomputable def methIn (K : Frag) (C : Addr) (name : Str) (f : Addr) : Bool := plainGet K C name && (findIn K (.ref C) name == some (some (.ref f))) && isFn K (.ref f) && keepIn K (.ref f)
theorem meth_inst {n : Nat} {C : Addr} {fs : List (Str × V)} {name : Str} {f : Addr} (hn : H[n]? = some (.inst C fs)) (hk : methIn c.B.K C name f = true) (hno : fget name fs = none) : MethOk c (.ref n) name H (.glob f) := fun A ρ s pv pl E R st vo => by
  obtain ⟨q, rfl, e⟩ := vo.ref_inv
  obtain ⟨ne, h1, es, k, h2, hf⟩ := st.ref hn e
  unfold methIn at hk
  simp only [Bool.and_eq_true, beq_iff_eq] at hk
  obtain ⟨⟨⟨k1, k2⟩, k3⟩, k4⟩ := hk
  have i := hf.getL (name := name)
  rw [hno] at i
  refine ⟨.ref f, fun _ _ => .glob f, fun h X M => keeps_K k4 h X, fun r => method_fn st.K (inst_at h1 h2) (plainGet_of k1).1 (plainGet_of k1).2 k2 (beq_iff_eq.mp k3) ?_ r⟩
  show (lookIn name (dictOf es k)).map _ = _
  rw [lookIn_dict, i]; rfl

/-! methods of lists -/
theorem fn_append {n : Nat} {xs : List V} {v : V} (hn : H[n]? = some (.list xs)) (hz : xs.length ≤ 100000) (hq : Q .none (H.set n (.list (xs ++ [v])))) : OpN c (fun vs => call (.builtin "list.append") vs) [.ref n, v] H Q XO := fun A ρ s vs ak st va => by
  replace va := va.two; obtain ⟨pl, pv, rfl, va, vb⟩ := va
  obtain ⟨q, rfl, e⟩ := va.ref_inv
  obtain ⟨hqq, ws, k, h1, hr⟩ := st.ref hn e
  have hl := hr.length
  refine call_meets PySem.F.slot_list_append ⟨_, h1, rfl⟩ PySem.F.entry_list_append (PySem.F.args_list_append_2 _ _) (list_append q.1 ws.toArray k pv (by simp only [List.size_toArray]; rw [sizeLine_eq]; lia)) ⟨h1, ?_⟩
  have kp : ∀ b o, s.heap.get? b = some o → b ≠ q.1 → b ≠ q.2 → (s.heap.update q.1 (Obj.mapSeq fun x => x.push pv)).get? b = some o := fun b o e h1 _ => (Heap.get?_update_other _ _ (Ne.symm h1)).trans e
  have x1 : Step c.B none ρ s ρ { s with heap := s.heap.update q.1 (Obj.mapSeq fun x => x.push pv) } := Step.upd st e kp (lv_upd hqq h1 rfl) rfl rfl
  refine ⟨ρ, _, .none, x1, St.upd (s' := { s with heap := s.heap.update q.1 (Obj.mapSeq fun x => x.push pv) }) (ob := .list (xs ++ [v])) st e kp rfl rfl ⟨hqq, ws ++ [pv], _, (by have := h1.update (·.push pv); rwa [List.push_toArray] at this), ?_⟩, .none, hq⟩
  exact (hr.mono st .none x1).append ⟨vb.mono st .none x1, trivial⟩
theorem fn_reverse {n : Nat} {xs : List V} (hn : H[n]? = some (.list xs)) (hz : xs.length ≤ 100000) (hq : Q .none (H.set n (.list xs.reverse))) : OpN c (fun vs => call (.builtin "list.reverse") vs) [.ref n] H Q XO := fun A ρ s vs ak st va => by
  replace va := va.one; obtain ⟨pl, rfl, va⟩ := va
  obtain ⟨q, rfl, e⟩ := va.ref_inv
  obtain ⟨hqq, ws, k, h1, hr⟩ := st.ref hn e
  have hl := hr.length
  refine call_meets PySem.F.slot_list_reverse ⟨_, h1, rfl⟩ PySem.F.entry_list_reverse (PySem.F.args_list_reverse_1 _) (AutoSeq1.list_reverse_list_0 q.1 ws.toArray k (by simp only [List.size_toArray]; rw [sizeLine_eq]; lia)) ⟨h1, ?_⟩
  have kp : ∀ b o, s.heap.get? b = some o → b ≠ q.1 → b ≠ q.2 → (s.heap.update q.1 (Obj.mapSeq fun x => x.reverse)).get? b = some o := fun b o e h1 _ => (Heap.get?_update_other _ _ (Ne.symm h1)).trans e
  have x1 : Step c.B none ρ s ρ { s with heap := s.heap.update q.1 (Obj.mapSeq fun x => x.reverse) } := Step.upd st e kp (lv_upd hqq h1 rfl) rfl rfl
  refine ⟨ρ, _, .none, x1, St.upd (s' := { s with heap := s.heap.update q.1 (Obj.mapSeq fun x => x.reverse) }) (ob := .list xs.reverse) st e kp rfl rfl ⟨hqq, ws.reverse, _, (by have := h1.update (·.reverse); rwa [List.reverse_toArray] at this), ?_⟩, .none, hq⟩
  exact (hr.mono st .none x1).reverse
theorem VRs.dropLast {B : Bx} {h : Heap} {ρ : Rho} {xs : List V} {vs : List Value} (r : VRs B h ρ xs vs) : VRs B h ρ xs.dropLast vs.dropLast := by
  rw [List.dropLast_eq_take, List.dropLast_eq_take, r.length]; exact r.take _
theorem fn_pop {n : Nat} {xs : List V} {v : V} (hn : H[n]? = some (.list (xs ++ [v]))) (hz : xs.length ≤ 100000) (hq : Q v (H.set n (.list xs))) : OpN c (fun vs => call (.builtin "list.pop") vs) [.ref n] H Q XO := fun A ρ s vs ak st va => by
  replace va := va.one; obtain ⟨pl, rfl, va⟩ := va
  obtain ⟨q, rfl, e⟩ := va.ref_inv
  obtain ⟨hqq, ws, k, h1, hr⟩ := st.ref hn e
  have hl := hr.length
  obtain ⟨pv, e1, e2⟩ := hr.exists_get (i := xs.length) (x := v) (by simp)
  refine call_meets PySem.F.slot_list_pop ⟨_, h1, rfl⟩ PySem.F.entry_list_pop (PySem.F.args_list_pop_1 _) (MeetsSeq.list_pop_last q.1 ws.toArray k pv (by simp only [List.size_toArray, List.getElem?_toArray]; rw [← e1]; congr 1; simp at hl; lia) (by simp only [List.size_toArray]; rw [sizeLine_eq]; simp at hl; lia)) ⟨h1, ?_⟩
  have kp : ∀ b o, s.heap.get? b = some o → b ≠ q.1 → b ≠ q.2 → (s.heap.update q.1 (Obj.mapSeq fun zs => zs.eraseIdxIfInBounds (ws.toArray.size - 1))).get? b = some o := fun b o e h1 _ => (Heap.get?_update_other _ _ (Ne.symm h1)).trans e
  have x1 : Step c.B none ρ s ρ { s with heap := s.heap.update q.1 (Obj.mapSeq fun zs => zs.eraseIdxIfInBounds (ws.toArray.size - 1)) } := Step.upd st e kp (lv_upd hqq h1 rfl) rfl rfl
  have he : ws.toArray.eraseIdxIfInBounds (ws.toArray.size - 1) = ws.dropLast.toArray := by
    rw [List.eraseIdxIfInBounds_toArray, List.size_toArray, List.eraseIdx_length_sub_one]
  refine ⟨ρ, _, v, x1, St.upd (s' := { s with heap := s.heap.update q.1 (Obj.mapSeq fun zs => zs.eraseIdxIfInBounds (ws.toArray.size - 1)) }) (ob := .list xs) st e kp rfl rfl ⟨hqq, ws.dropLast, _, (by have := h1.update (·.eraseIdxIfInBounds (ws.toArray.size - 1)); rwa [he] at this), ?_⟩, e2.mono st .none x1, hq⟩
  have := (hr.mono st .none x1).dropLast
  simpa using this
end
/-! ### PH -/
noncomputable abbrev InitK (n : Nat) (Q : V → HA → Prop) : V → HA → Prop := fun v H' => v = .none ∧ Q (.ref n) H'
noncomputable abbrev FnX (X : Addr → HA → Prop) : Addr → LM → HA → Prop := fun e _ H' => X e H'
theorem lookup_zip {B : Bx} {h : Heap} {ρ : Rho} : ∀ {ns : List Str} {xs : List V} {vs : List Value}, VRs B h ρ xs vs → ∀ x v, (ns.zip xs).lookup x = some v → ∃ pv, (ns.zip vs).lookup x = some pv ∧ VR B h ρ v pv
  | [], _, _, _, x, v, e => by simp at e
  | n :: ns, [], [], _, x, v, e => by simp at e
  | n :: ns, a :: xs, b :: vs, r, x, v, e => by
    rw [List.zip_cons_cons, List.lookup_cons] at e ⊢
    cases q : x == n with
    | true => rw [q] at e; cases e; exact ⟨b, rfl, r.1⟩
    | false => rw [q] at e; exact lookup_zip r.2 x v e
  | n :: ns, [], _ :: _, r, x, v, e => r.elim
  | n :: ns, _ :: _, [], r, x, v, e => r.elim
theorem lookup_rev {α : Type} : ∀ {l : List (Str × α)}, (l.map (·.1)).Nodup → ∀ x, l.reverse.lookup x = l.lookup x
  | [], _, x => rfl
  | (n, a) :: l, nd, x => by
    rw [List.map_cons, List.nodup_cons] at nd
    rw [List.reverse_cons, List.lookup_append, lookup_rev nd.2, List.lookup_cons]
    cases q : x == n with
    | true =>
      have : x = n := eq_of_beq q
      subst this
      have hno : l.lookup x = none := by
        rw [List.lookup_eq_none_iff]
        intro p hp
        have : x ≠ p.1 := fun z => nd.1 (List.mem_map.mpr ⟨p, hp, z.symm⟩)
        simpa using this
      rw [hno]; simp
    | false => simp [List.lookup_cons, q]

section
variable {B : Bx} {ρ ρ' : Rho} {H : HA} {s s₁ s' : Shared} {L : Addr}
theorem Step.inner (x : Step B none ρ s ρ s₁) (hL : s.heap.get? L = none) (y : Step B (some L) ρ s₁ ρ' s') : Step B none ρ s ρ' s' := by
  have nl : ∀ a o, s.heap.get? a = some o → some a ≠ some L := fun a o e q => by cases q; rw [hL] at e; cases e
  obtain ⟨t, rfl, ht⟩ := y.pre
  refine ⟨⟨t, rfl, fun q hq => ?_⟩, (fun a o e => (x.live a o e).elim fun o' e' => y.live a o' e'), fun a o e f _ d => ?_, (fun _ _ _ z _ => nomatch z), fun a o e f p d c1 c2 => y.keepF a o (x.keepF a o e f p d c1 c2) f p d c1 c2, fun c q z => y.code _ _ (x.code _ _ z), fun a z => y.exc _ (x.exc _ z), y.gens.trans x.gens, y.os.trans x.os⟩
  · exact ⟨dead_of x.live (ht q hq).1, dead_of x.live (ht q hq).2⟩
  · obtain ⟨sl, e1⟩ := x.keepN a o e f (by simp) d
    obtain ⟨sl', e2⟩ := y.keepN a _ e1 f (nl _ _ e) d
    exact ⟨sl', e2⟩
end

noncomputable def retV : Fl → V
  | .ret v => v
  | _ => .none

noncomputable abbrev FnK (Q : V → HA → Prop) : Fl → LM → HA → Prop := fun fl _ H' => Q (retV fl) H'
theorem call_core {c : Cx} {H : HA} {Q : V → HA → Prop} {X : Addr → HA → Prop} {A : Around} {ρ : Rho} {s : Shared} {vs : List Value} {xs : List V} {o : Obj} {fd : FuncData} {names : List Str} {body : List Stmt} {cl : List (Str × Nat)} {a : Addr}
    (ak : AOk c A ρ s.heap) (st : St c.B ρ H s.heap) (va : VRs c.B s.heap ρ xs vs) (ho : s.heap.get? a = some o) (hdata : o.data = .func fd) (hcd : s.heap.CodeRec fd.code fd.qualname)
    (hbody : fd.body = .stmts body) (hg : fd.globals = mainGlobals) (hbl : fd.builtins = builtinsNs) (hcl : CellsR ρ cl fd.closure)
    (hbind : bindArgs fd ⟨vs, []⟩ = pure (names.zip vs)) (hnd : names.Nodup) (hlen : names.length = xs.length) (hcell : ∀ x ∈ fd.scope.names, x.2 ≠ .cell) (hloc : ∀ y ∈ names, fd.scope.names.lookup y = some .local)
    (hco : fd.scope.isCoroutine = false) (hgen : fd.scope.isGenerator = false) (hk : fd.scope.kind = .function) (hd : 1 ≤ c.d)
    (h : ExW ⟨c.B, c.hv, c.d - 1⟩ ⟨fd.qualname, fd.scope, a, fd.code, cl, true⟩ body (names.zip xs) H (FnK Q) (FnX X)) :
    codeAny c.B.M A (.call (.ref a) ⟨vs, []⟩) (fun r s' => match r with | .ok (.ret v) => OpQ c.B ρ s Q v s' | .ok _ => False | .error e => RzO c.B ρ s X e s') s := by
  have hlv := va.length
  refine codeAny_call_def (binds := names.zip vs) (by have := ak.dep; unfold recursionLimit; lia) ho hdata (c.B.T.nolimit.keeps st.base) hcd hbody (BindsTo.of_eq hbind) hcell
    (fun y hy => hloc _ (List.of_mem_zip hy).1) (fun h₀ hns hkp => ?_) hco hgen hk
  have x0 : Step c.B none ρ s ρ { s with heap := h₀, toks := s.toks + (names.zip vs).length } := Step.ext hkp rfl rfl
  have st0 : St c.B ρ H h₀ := St.ext (s' := { s with heap := h₀, toks := s.toks + (names.zip vs).length }) st hkp rfl rfl
  have offL : Off ρ s.heap.objs.size := fun q hq => ⟨Nat.ne_of_gt (st.lt q hq).1, Nat.ne_of_gt (st.lt q hq).2⟩
  have loL : c.B.h0.get? s.heap.objs.size = none := dead_of (fun a o e => ⟨o, st.base a o e⟩) (Heap.get?_none_of_le (Nat.le_refl _))
  obtain ⟨l, hl, hfr⟩ := ak.fr
  have henv : callEnv fd s.heap.objs.size a = envX fd.qualname fd.scope s.heap.objs.size a fd.code fd.closure := by
    unfold callEnv
    rw [hg, hbl]; rfl
  rw [henv]
  have fr0 : ∀ e ∈ envX fd.qualname fd.scope s.heap.objs.size a fd.code fd.closure :: l, FrOk c.B ρ h₀ e := fun e he => by
    rcases List.mem_cons.mp he with rfl | he
    · obtain ⟨oL, es, ep, e1, e2, _⟩ := hns
      exact ⟨hk, _, oL, rfl, loL, e1, (fun vs q => by rw [e2] at q; cases q), offL⟩
    · exact (hfr e he).mono x0
  have hfs : (A.deeper (envX fd.qualname fd.scope s.heap.objs.size a fd.code fd.closure)).frames = some (envX fd.qualname fd.scope s.heap.objs.size a fd.code fd.closure :: l) := by
    unfold Around.deeper; rw [hl]; rfl
  have ak0 : AOk ⟨c.B, c.hv, c.d - 1⟩ (A.deeper (envX fd.qualname fd.scope s.heap.objs.size a fd.code fd.closure)) ρ h₀ := by
    refine ⟨ak.hd, ?_, ?_, ⟨_, hfs, fr0⟩⟩
    · have := ak.dep; show A.depth + 1 + 8 * (c.d - 1) ≤ 900; lia
    · have := ak.uni; show A.units + 3 + 60 * (c.d - 1) ≤ 9000; lia
  have k0 : Ok ⟨c.B, c.hv, c.d - 1⟩ ⟨fd.qualname, fd.scope, a, fd.code, cl, true⟩ (names.zip xs) H (A.deeper (envX fd.qualname fd.scope s.heap.objs.size a fd.code fd.closure)) (envX fd.qualname fd.scope s.heap.objs.size a fd.code fd.closure) s.heap.objs.size ρ { s with heap := h₀, toks := s.toks + (names.zip vs).length } := by
    refine ⟨ak0, ⟨rfl, hk, rfl, rfl, rfl, rfl, hcl, ⟨_, _, hfs, rfl⟩, fun _ => ⟨rfl, _, hfs⟩⟩, st0, ⟨⟨_, hns, fun x v e => ?_⟩, offL, loL⟩⟩
    obtain ⟨pv, e1, e2⟩ := lookup_zip va x v e
    refine ⟨pv, ?_, e2.mono st .none x0⟩
    rw [lookup_rev (by rw [List.map_fst_zip (by lia)]; exact hnd)]; exact e1
  have hnone : s.heap.get? s.heap.objs.size = none := Heap.get?_none_of_le (Nat.le_refl _)
  refine wpAny_mono (h _ _ _ _ _ k0) ?_ ?_
  · rintro f s' ⟨ρ', m', H', f', x1, st1, l1, fo, q⟩
    refine ⟨ρ', H', retV f', x0.inner hnone x1, st1, ?_, q⟩
    cases f' <;> cases f <;> first | exact fo.elim | exact .none | exact fo
  · rintro e s' ⟨ρ', m', H', a', he, x1, st1, l1, ex, q⟩
    subst he
    have hf1 : ∀ e ∈ envX fd.qualname fd.scope s.heap.objs.size a fd.code fd.closure :: l, FrOk c.B ρ' s'.heap e := fun e he => (fr0 e he).mono (c := c) x1
    refine leave_exc st1 hfs hf1 (F := s.heap.objs.size) rfl (ex.mono fun x hx => hx.imp id ?_) fun s2 x2 st2 e2 => ?_
    · rintro ⟨f, z, rfl⟩; cases z; rfl
    · exact ⟨ρ', H', a', rfl, (x0.inner hnone x1).trans x2, st2, e2.ok, q⟩

/-- a def of the text's: its data as the top left it -/
structure FnOk (K : Frag) (f : Addr) (fd : FuncData) (names : List Str) (body : List Stmt) : Prop where
  at_ : ∃ oc od osl, K.lookup f = some ⟨oc, od, .func fd, osl⟩
  code : codeIn K fd.code fd.qualname = true
  body : fd.body = .stmts body
  glob : fd.globals = mainGlobals
  blt : fd.builtins = builtinsNs
  clo : fd.closure = []
  bind : ∀ vs : List Value, vs.length = names.length → bindArgs fd ⟨vs, []⟩ = pure (names.zip vs)
  nodup : names.Nodup
  nocell : ∀ x ∈ fd.scope.names, x.2 ≠ .cell
  loc : ∀ y ∈ names, fd.scope.names.lookup y = some .local
  co : fd.scope.isCoroutine = false
  gen : fd.scope.isGenerator = false
  kind : fd.scope.kind = .function

noncomputable def frOf (f : Addr) (fd : FuncData) : FrA := ⟨fd.qualname, fd.scope, f, fd.code, [], true⟩

/-- a call of a def, as the machine sees it -/
noncomputable def CodeW (c : Cx) (f : Addr) (xs : List V) (H : HA) (Q : V → HA → Prop) (X : Addr → HA → Prop) : Prop :=
  ∀ A ρ s vs, AOk c A ρ s.heap → St c.B ρ H s.heap → VRs c.B s.heap ρ xs vs →
    codeAny c.B.M A (.call (.ref f) ⟨vs, []⟩) (fun r s' => match r with | .ok (.ret v) => OpQ c.B ρ s Q v s' | .ok _ => False | .error e => RzO c.B ρ s X e s') s
theorem CodeW.call {c : Cx} {H : HA} {Q : V → HA → Prop} {X : Addr → HA → Prop} {xs : List V} {f : Addr} (h : CodeW c f xs H Q X) : CallW c (.glob f) xs H Q X := .glob fun A ρ s vs ak st va => wpAny_call (h A ρ s vs ak st va)
theorem fn_code {c : Cx} {H : HA} {Q : V → HA → Prop} {X : Addr → HA → Prop} {xs : List V} {f : Addr} {fd : FuncData} {names : List Str} {body : List Stmt} (F : FnOk c.B.K f fd names body) (hl : names.length = xs.length) (hd : 1 ≤ c.d)
    (h : ExW ⟨c.B, c.hv, c.d - 1⟩ (frOf f fd) body (names.zip xs) H (FnK Q) (FnX X)) : CodeW c f xs H Q X := fun A ρ s vs ak st va => by
  obtain ⟨oc, od, osl, e⟩ := F.at_
  exact call_core ak st va (st.K _ _ e) rfl (codeRec_of st.K F.code) F.body F.glob F.blt (by rw [F.clo]; intro x n z; cases z) (F.bind vs (by rw [hl, va.length])) F.nodup hl F.nocell F.loc F.co F.gen F.kind hd h
/-- a closure's call -/
structure CloOk (d : CloD) (names : List Str) : Prop where
  bind : ∀ (doc pm cv ctv : Value) (clos : List (Str × Addr)) (vs : List Value), vs.length = names.length → bindArgs (fnX d.name d.qual d.params d.body d.scope clos .none .none doc pm none cv ctv) ⟨vs, []⟩ = pure (names.zip vs)
  nodup : names.Nodup
  nocell : ∀ x ∈ d.scope.names, x.2 ≠ .cell
  loc : ∀ y ∈ names, d.scope.names.lookup y = some .local
  co : d.scope.isCoroutine = false
  gen : d.scope.isGenerator = false
  kind : d.scope.kind = .function
theorem clo_call {c : Cx} {H : HA} {Q : V → HA → Prop} {X : Addr → HA → Prop} {xs : List V} {n : Nat} {d : CloD} {names : List Str} (hn : H[n]? = some (.clo d)) (F : CloOk d names) (hl : names.length = xs.length) (hd : 1 ≤ c.d)
    (h : ∀ a cd, ExW ⟨c.B, c.hv, c.d - 1⟩ ⟨d.qual, d.scope, a, cd, d.cl, true⟩ d.body (names.zip xs) H (FnK Q) (FnX X)) : CallW c (.ref n) xs H Q X := fun A ρ s pf vs ak st vf va => by
  obtain ⟨q, rfl, e⟩ := vf.ref_inv
  obtain ⟨hqq, clos, doc, pm, c', ctv, h1, h2, h3⟩ := st.ref hn e
  exact wpAny_call (call_core (cl := d.cl) ak st va h1 rfl h2 rfl rfl rfl h3 (F.bind _ _ _ _ _ vs (by rw [hl, va.length])) F.nodup hl F.nocell F.loc F.co F.gen F.kind hd (h _ _))

/-- a class of the text's is called -/
theorem cls_call {c : Cx} {H : HA} {Q : V → HA → Prop} {X : Addr → HA → Prop} {xs : List V} {C fI : Addr} (hm : makesIn c.B.K C = true) (hi : findIn c.B.K (.ref C) "__init__" = some (some (.ref fI))) (hf : typeIn c.B.K (.ref fI) = some (.type "function")) (hd : 1 ≤ c.d)
    (h : CodeW ⟨c.B, c.hv, c.d - 1⟩ fI (.ref H.length :: xs) (H ++ [.inst C []]) (InitK H.length Q) X) : CallW c (.glob C) xs H Q X := .glob fun A ρ s vs ak st va => by
  refine wpAny_call ?_
  obtain ⟨hh, g, d, t, os⟩ := s
  refine make_core (makes_of st.K hm) (looks_findIn st.K hi) (fun self => bind_fn st.K self hf) (.inl rfl) ?_
  have kp : ∀ b o, hh.get? b = some o → ((hh.push emptyDict).push (instObj C hh.objs.size)).get? b = some o := fun b o e => Heap.get?_push_of_some _ (Heap.get?_push_of_some _ e)
  have hs : (hh.push emptyDict).objs.size = hh.objs.size + 1 := by simp
  have x0 : Step c.B none ρ ⟨hh, g, d, t, os⟩ (ρ ++ [(hh.objs.size + 1, hh.objs.size)]) ⟨(hh.push emptyDict).push (instObj C hh.objs.size), g, d, t, os⟩ := Step.new kp rfl rfl ⟨Nat.le_succ _, Nat.le_refl _⟩
  have st0 := St.new (s := ⟨hh, g, d, t, os⟩) (s' := ⟨(hh.push emptyDict).push (instObj C hh.objs.size), g, d, t, os⟩) (ob := .inst C []) (q := (hh.objs.size + 1, hh.objs.size)) st kp rfl rfl ⟨Nat.le_succ _, Nat.le_refl _⟩
    ⟨Nat.succ_ne_self _, by have := Heap.get?_push_size (hh.push emptyDict) (o := instObj C hh.objs.size) rfl; rwa [hs] at this, [], 0, Heap.get?_push_of_some _ (Heap.get?_push_size hh rfl), trivial⟩
  have ak0 : AOk ⟨c.B, c.hv, c.d - 1⟩ (A.under (.builtin "type.__call__" ⟨.ref C :: vs, []⟩)) (ρ ++ [(hh.objs.size + 1, hh.objs.size)]) ((hh.push emptyDict).push (instObj C hh.objs.size)) := by
    have a1 := ak.mono x0
    obtain ⟨l, h1, h2⟩ := a1.fr
    have w1 : (Code.builtin "type.__call__" ⟨.ref C :: vs, []⟩).weight ≤ 2 := by
      exact Nat.le_of_ble_eq_true (by with_unfolding_all rfl)
    have u1 : (Code.builtin "type.__call__" ⟨.ref C :: vs, []⟩).cUnits ≤ 20 := by
      exact Nat.le_of_ble_eq_true (by with_unfolding_all rfl)
    refine ⟨ak.hd, ?_, ?_, ⟨l, ?_, h2⟩⟩
    · have := ak.dep; show A.depth + _ + 8 * (c.d - 1) ≤ 900; lia
    · have := ak.uni; show A.units + _ + 60 * (c.d - 1) ≤ 9000; lia
    · show pushEnvs (Code.builtin "type.__call__" ⟨.ref C :: vs, []⟩).envs A.frames = _
      exact h1
  have vs0 : VRs c.B ((hh.push emptyDict).push (instObj C hh.objs.size)) (ρ ++ [(hh.objs.size + 1, hh.objs.size)]) (.ref H.length :: xs) (.ref (hh.objs.size + 1) :: vs) :=
    VRs.cons (.ref (q := (hh.objs.size + 1, hh.objs.size)) (by rw [← st.len, List.getElem?_concat_length])) (va.mono st .none x0)
  refine codeAny_mono (h _ _ _ _ ak0 st0 vs0) fun r s' z => ?_
  rcases r with e | (v | _ | _ | _)
  · obtain ⟨ρ', H', a, h1, h2, h3, h4, h5⟩ := z
    exact ⟨ρ', H', a, h1, x0.trans h2, h3, h4, h5⟩
  · exact z
  · exact z
  · exact z
  · obtain ⟨ρ', H', w, h1, h2, h3, rfl, h4⟩ := z
    cases h3
    refine ⟨rfl, ρ', H', .ref H.length, x0.trans h1, h2, .ref (q := (hh.objs.size + 1, hh.objs.size)) (h1.grow ?_), h4⟩
    rw [← st.len, List.getElem?_concat_length]
/-! ### PI -/
theorem fset_lookup (x y : Str) (v : V) : ∀ m : LM, (fset x v m).lookup y = if y == x then some v else m.lookup y
  | [] => by
    simp only [fset, List.lookup_cons, List.lookup_nil]
    split <;> simp_all
  | (n, w) :: r => by
    simp only [fset]
    cases q : n == x with
    | true =>
      have := eq_of_beq q
      subst this
      simp only [if_true, List.lookup_cons]
      cases y == n <;> simp
    | false =>
      simp only [Bool.false_eq_true, if_false, List.lookup_cons, fset_lookup x y v r]
      cases z : y == n with
      | true =>
        have := eq_of_beq z
        subst this
        simp [q]
      | false => rfl

section loc
variable {c : Cx} {fa : FrA} {m : LM} {H : HA} {A : Around} {env : Env} {L : Addr} {ρ : Rho} {s : Shared} {E : Value → Shared → Prop}

/-- the frame's own dict changes -/
theorem Step.loc {B : Bx} {h' : Heap} {tk : Nat} {mc mc' : Str → Option Value} (st : St B ρ H s.heap) (off : Off ρ L) (lo : B.h0.get? L = none) (hn : s.heap.Ns L mc) (hn' : h'.Ns L mc') (hs : Heap.SameBut L s.heap h') :
    Step B (some L) ρ s ρ { s with heap := h', toks := tk } ∧ St B ρ H h' := by
  obtain ⟨o, es, ep, e1, e2, _⟩ := hn
  obtain ⟨o', es', ep', e1', e2', _⟩ := hn'
  have kf : ∀ b o vs, s.heap.get? b = some o → o.data = .fields vs → h'.get? b = some o := fun b o'' vs e d => (hs.2 b fun q => by subst q; rw [e1] at e; cases e; rw [e2] at d; cases d).trans e
  have x1 : Step B (some L) ρ s ρ { s with heap := h', toks := tk } := {
    pre := ⟨[], by simp, by simp⟩
    live := fun a o e => by
      by_cases q : a = L
      · subst q; exact ⟨o', e1'⟩
      · exact ⟨o, (hs.2 a q).trans e⟩
    keepN := fun a o e f n _ => ⟨o.slots, (hs.2 a fun q => n (by rw [q])).trans e⟩
    keepL := fun a o e q _ => by cases q; exact ⟨o', e1', fun vs z => by rw [e2'] at z; cases z⟩
    keepF := (by rintro a o e f p ⟨vs, d⟩ _ _; exact kf _ _ _ e d)
    code := fun _ _ x => code_keep kf x
    exc := fun _ x => exc_keep kf x
    gens := rfl
    os := rfl }
  refine ⟨x1, ?_⟩
  exact {
    base := fun a o e => (hs.2 a (fun q => by subst q; rw [lo] at e; cases e)).trans (st.base _ _ e)
    tab := st.tab.keep kf
    len := st.len
    lo := st.lo
    apart := st.apart
    rel := fun n q ob z1 z2 => by
      have hq := off q (List.mem_of_getElem? z1)
      exact (st.rel n q ob z1 z2).imp (fun o e => (hs.2 _ (Ne.symm hq.1)).trans e) (fun o e => (hs.2 _ (Ne.symm hq.2)).trans e) (fun _ _ r => r.mono (s' := { s with heap := h', toks := tk }) st (fun L' z => by cases z; exact ⟨mc, o, es, ep, e1, e2, by assumption⟩) x1) (fun _ _ x => code_keep kf x) fun _ _ e => e }

theorem store_loc {x : Str} {v : V} {pv : Value} (k : Ok c fa m H A env L ρ s) (hx : fa.cs.names.lookup x = some .local) (hv : VR c.B s.heap ρ v pv) :
    wpAny c.B.M A (storeName env x pv) (fun _ s' => Step c.B (some L) ρ s ρ s' ∧ St c.B ρ H s'.heap ∧ Loc c.B L (fset x v m) ρ s'.heap) E s := by
  obtain ⟨mc, hn, hm⟩ := k.lc.ns
  refine wpAny_storeName_local (by unfold Env.kindOf; rw [k.ev.sc]; exact hx) (by rw [k.ev.loc]; exact hn) (fun h' hn' hs => ?_) (by rw [k.ev.sc, k.ev.kind]; rfl)
  rw [k.ev.loc] at hn' hs
  obtain ⟨x1, st1⟩ := Step.loc (tk := s.toks + 1) k.st k.lc.off k.lc.lo hn hn' hs
  refine ⟨x1, st1, ⟨_, hn', fun y w e => ?_⟩, k.lc.off, k.lc.lo⟩
  rw [fset_lookup] at e
  by_cases q : y = x
  · subst q
    rw [if_pos (by simp)] at e
    cases e
    exact ⟨pv, if_pos rfl, hv.mono k.st k.lc.lx x1⟩
  · rw [if_neg (by simpa using q)] at e
    obtain ⟨pw, e1, e2⟩ := hm y w e
    exact ⟨pw, (if_neg q).trans e1, e2.mono k.st k.lc.lx x1⟩
theorem store_cell {x : Str} {v : V} {w : Option V} {pv : Value} {n : Nat} (k : Ok c fa m H A env L ρ s) (hx : fa.cs.names.lookup x = some .cell) (hc : fa.cl.lookup x = some n) (hn : H[n]? = some (.cell w)) (hv : VR c.B s.heap ρ v pv) :
    wpAny c.B.M A (storeName env x pv) (fun _ s' => Step c.B (some L) ρ s ρ s' ∧ St c.B ρ (H.set n (.cell (some v))) s'.heap ∧ Loc c.B L m ρ s'.heap) E s := by
  obtain ⟨q, e1, e2⟩ := k.ev.cells x n hc
  obtain ⟨hqq, r⟩ := k.st.ref hn e1
  have hcell : ∃ y, s.heap.IsCell q.1 y := by
    cases w with
    | none => exact ⟨_, r⟩
    | some y => exact ⟨_, r.choose_spec.1⟩
  obtain ⟨y, hy⟩ := hcell
  refine wpAny_storeName_cell (by rw [k.ev.sc]; exact k.ev.kind) (by unfold Env.kindOf; rw [k.ev.sc]; exact hx) e2 hy fun h' hv' hs => ?_
  have kp : ∀ b o, s.heap.get? b = some o → b ≠ q.1 → b ≠ q.2 → h'.get? b = some o := fun b o e h1 _ => (hs.2 b h1).trans e
  have x1 : Step c.B none ρ s ρ { s with heap := h' } := Step.upd k.st e1 kp (lv_one hqq hv'.choose_spec.1) rfl rfl
  have st1 := St.upd (s' := { s with heap := h' }) (ob := .cell (some v)) k.st e1 kp rfl rfl ⟨hqq, pv, hv', hv.mono k.st .none x1⟩
  exact ⟨x1.atL k.lc.off, st1, k.lc.mono k.st x1⟩
end loc

/-! ### targets -/
noncomputable def TgW (c : Cx) (fa : FrA) (t : Expr) (v : V) (m : LM) (H : HA) (Q : LM → HA → Prop) : Prop := ∀ A env L ρ s pv (E : Value → Shared → Prop), Ok c fa m H A env L ρ s → VR c.B s.heap ρ v pv →
  wpAny c.B.M A (assign t env pv) (fun _ => AsP c.B L ρ s Q) E s
noncomputable def TgsW (c : Cx) (fa : FrA) (ts : List Expr) (vs : List V) (m : LM) (H : HA) (Q : LM → HA → Prop) : Prop := ∀ A env L ρ s pvs (E : Value → Shared → Prop), Ok c fa m H A env L ρ s → VRs c.B s.heap ρ vs pvs →
  wpAny c.B.M A (assignInOrder ((assignEach ts env).map (·.2)) pvs) (fun _ => AsP c.B L ρ s Q) E s

section tgs
variable {c : Cx} {fa : FrA} {m : LM} {H : HA} {Q : LM → HA → Prop}
theorem tg_name {x : Str} {pos : Pos} {v : V} (hx : fa.cs.names.lookup x = some .local) (hq : Q (fset x v m) H) : TgW c fa (.Name x pos) v m H Q := fun A env L ρ s pv E k hv =>
  wpAny_assign_Name (wpAny_mono (store_loc (E := E) k hx hv) (by rintro _ s' ⟨x1, st1, l1⟩; exact ⟨ρ, _, H, x1, st1, l1, hq⟩) fun _ _ e => e)
theorem tg_cell {x : Str} {pos : Pos} {v : V} {w : Option V} {n : Nat} (hx : fa.cs.names.lookup x = some .cell) (hc : fa.cl.lookup x = some n) (hn : H[n]? = some (.cell w)) (hq : Q m (H.set n (.cell (some v)))) : TgW c fa (.Name x pos) v m H Q := fun A env L ρ s pv E k hv =>
  wpAny_assign_Name (wpAny_mono (store_cell (E := E) k hx hc hn hv) (by rintro _ s' ⟨x1, st1, l1⟩; exact ⟨ρ, _, _, x1, st1, l1, hq⟩) fun _ _ e => e)
theorem tgs_nil (hq : Q m H) : TgsW c fa [] [] m H Q := fun A env L ρ s pvs E k hv => by
  match pvs, hv with
  | [], _ => exact wpAny_assignInOrder_none ⟨ρ, m, H, Step.refl, k.st, k.lc, hq⟩
noncomputable abbrev TgsK (c : Cx) (fa : FrA) (ts : List Expr) (vs : List V) (Q : LM → HA → Prop) : LM → HA → Prop := fun m1 H1 => TgsW c fa ts vs m1 H1 Q
theorem tgs_cons {t : Expr} {ts : List Expr} {v : V} {vs : List V} (h : TgW c fa t v m H (TgsK c fa ts vs Q)) (he : ∀ env, assignEach (t :: ts) env = (false, assign t env) :: assignEach ts env := by intro _; with_unfolding_all rfl) :
    TgsW c fa (t :: ts) (v :: vs) m H Q := fun A env L ρ s pvs E k hv => by
  match pvs, hv with
  | pv :: pvs, ⟨hv, hvs⟩ =>
    rw [he]
    refine wpAny_assignInOrder_more (wpAny_mono (h A env L ρ s pv E k hv) ?_ fun _ _ e => e)
    rintro _ s₁ ⟨ρ₁, m₁, H₁, x1, st1, l1, h1⟩
    exact wpAny_mono (h1 A env L ρ₁ s₁ pvs E (k.next x1 st1 l1) (hvs.mono k.st k.lc.lx x1)) (fun _ _ r => r.after x1) fun _ _ e => e
theorem ext_step {B : Bx} {ρ : Rho} {H : HA} {s : Shared} {h' : Heap} (st : St B ρ H s.heap) (x : Heap.ExtBut s.heap.objs.size s.heap h') : Step B none ρ s ρ { s with heap := h' } ∧ St B ρ H h' := by
  have kp : ∀ b o, s.heap.get? b = some o → h'.get? b = some o := fun b o e => x b o (Nat.ne_of_lt (Heap.lt_size e)) e
  exact ⟨Step.ext kp rfl rfl, St.ext (s' := { s with heap := h' }) st kp rfl rfl⟩
end tgs
/-! ### PJ -/
/-! ### iterators: objects of a loop's own, that change -/
inductive Tame (B : Bx) (h : Heap) (a : Addr) : Prop
  | mk (o : Obj) (vs : Array Value) : h.get? a = some o → o.data = .fields vs → (∀ x t, vs[1]? ≠ some (.str x t)) → o.cls ≠ .type "traceback" → o.cls ≠ .ref B.CB → o.cls ≠ .none → Tame B h a

theorem VR.imp {B : Bx} {h h' : Heap} {ρ : Rho} (ht : ∀ a vs, IsTup h a vs → IsTup h' a vs) (hx : ∀ a, ExcAny B h a → ExcAny B h' a) {v : V} {pv : Value} (r : VR B h ρ v pv) : VR B h' ρ v pv := by
  induction r with
  | none => exact .none
  | bool b => exact .bool b
  | int i t => exact .int i t
  | str s t => exact .str s t
  | tup h1 hl _ ih => exact .tup (ht _ _ h1) hl fun i x v e e' => ih i x v e e'
  | ref e => exact .ref e
  | glob a => exact .glob a
  | ty n => exact .ty n
  | bi n => exact .bi n
  | exc e => exact .exc (hx _ e)

section it
variable {B : Bx} {ρ ρ₀ : Rho} {H : HA} {s₀ s s' : Shared} {as : List Addr} {Lx : Option Addr} {L : Addr} {m : LM}
structure Moved (as : List Addr) (s s' : Shared) : Prop where
  keep : ∀ b o, b ∉ as → s.heap.get? b = some o → s'.heap.get? b = some o
  gens : s'.gens = s.gens
  os : s'.os = s.os

theorem Moved.vr (ta : ∀ a ∈ as, Tame B s.heap a) (mv : Moved as s s') {v : V} {pv : Value} (r : VR B s.heap ρ v pv) : VR B s'.heap ρ v pv := by
  refine r.imp (fun a vs ⟨o, e, c, n, d⟩ => ⟨o, mv.keep a o (fun q => ?_) e, c, n, d⟩) fun a ⟨o, vs, z1, z2, z3, z0, z4⟩ => ⟨o, vs, mv.keep a o (fun q => ?_) z1, z2, z3, z0, z4.imp id ?_⟩
  · obtain ⟨o', vs', e', d', _⟩ := ta a q
    rw [e] at e'; cases e'; rw [d] at d'; cases d'
  · obtain ⟨o', vs', e', d', _, _, n, _⟩ := ta a q
    rw [z1] at e'; cases e'; exact n z2
  · rintro ⟨T, oT, ts, f, x, g1, g0, g2, g3, g⟩
    refine ⟨T, oT, ts, f, x, g1, g0, mv.keep T oT (fun q => ?_) g2, g3, g⟩
    obtain ⟨o', vs', e', d', _, n, _⟩ := ta T q
    rw [g2] at e'; cases e'; exact n g3
theorem Moved.exc (ta : ∀ a ∈ as, Tame B s.heap a) (mv : Moved as s s') {a : Addr} (e : ExcAny B s.heap a) : ExcAny B s'.heap a := by
  have := Moved.vr (ρ := []) ta mv (.exc e)
  cases this; assumption
theorem Moved.code (ta : ∀ a ∈ as, Tame B s.heap a) (mv : Moved as s s') {c : Value} {q : Str} (e : s.heap.CodeRec c q) : s'.heap.CodeRec c q := by
  obtain ⟨c, o, vs, t, rfl, h1, h2, h3⟩ := e
  refine ⟨c, o, vs, t, rfl, mv.keep c o (fun q => ?_) h1, h2, h3⟩
  obtain ⟨o', vs', e', d', n, _⟩ := ta c q
  rw [h1] at e'; cases e'; rw [h2] at d'; cases d'; exact n _ _ h3
theorem Moved.st (ta : ∀ a ∈ as, Tame B s.heap a) (lo : ∀ a ∈ as, B.h0.get? a = none) (mv : Moved as s s') (st : St B ρ H s.heap) : St B ρ H s'.heap where
  base := fun a o e => mv.keep a o (fun q => by rw [lo a q] at e; cases e) (st.base a o e)
  tab := by
    obtain ⟨ps, h1, h2, h3⟩ := st.tab
    refine ⟨ps, mv.keep _ _ (fun q => ?_) h1, h2, fun pq hp => (h3 pq hp).imp id (by rintro ⟨c', z1, z2⟩; exact ⟨c', z1, mv.code ta z2⟩)⟩
    obtain ⟨o', vs', e', _, _, _, _, n⟩ := ta _ q
    rw [h1] at e'; cases e'; exact n rfl
  len := st.len
  lo := st.lo
  apart := st.apart
  rel := fun n q ob e1 e2 => by
    have r := st.rel n q ob e1 e2
    have nq : ∀ a o, s.heap.get? a = some o → ¬ Odd o → a ∉ as := fun a o e od q => by
      obtain ⟨o', vs', e', d', _⟩ := ta a q
      rw [e] at e'; cases e'; exact od (.inl ⟨_, d'⟩)
    obtain ⟨⟨o1, z1, p1⟩, ⟨o2, z2, p2⟩⟩ := r.plain
    exact r.imp (fun o e => mv.keep _ o (nq _ o1 z1 p1) e) (fun o e => mv.keep _ o (nq _ o2 z2 p2) e) (fun _ _ r => mv.vr ta r) (fun _ _ x => mv.code ta x) fun _ _ e => e
theorem Moved.step (ta : ∀ a ∈ as, Tame B s.heap a) (dead : ∀ a ∈ as, s₀.heap.get? a = none) (mv : Moved as s s') (x : Step B Lx ρ₀ s₀ ρ s) : Step B Lx ρ₀ s₀ ρ s' where
  pre := x.pre
  live := fun a o e => by
    obtain ⟨o', e'⟩ := x.live a o e
    exact ⟨o', mv.keep _ _ (fun q => by rw [dead a q] at e; cases e) e'⟩
  keepN := fun a o e f n d => by
    obtain ⟨sl, e'⟩ := x.keepN a o e f n d
    exact ⟨sl, mv.keep _ _ (fun q => by rw [dead a q] at e; cases e) e'⟩
  keepL := fun a o e q d => by
    obtain ⟨o', e', d'⟩ := x.keepL a o e q d
    exact ⟨o', mv.keep _ _ (fun q => by rw [dead a q] at e; cases e) e', d'⟩
  keepF := fun a o e f p d c1 c2 => mv.keep _ _ (fun q => by rw [dead a q] at e; cases e) (x.keepF a o e f p d c1 c2)
  code := fun c q z => mv.code ta (x.code c q z)
  exc := fun a z => mv.exc ta (x.exc a z)
  gens := mv.gens.trans x.gens
  os := mv.os.trans x.os
theorem Moved.loc (ta : ∀ a ∈ as, Tame B s.heap a) (mv : Moved as s s') (l : Loc B L m ρ s.heap) : Loc B L m ρ s'.heap := by
  obtain ⟨⟨mc, ⟨o, es, ep, h1, h2, h3, h4⟩, hv⟩, off, lo⟩ := l
  refine ⟨⟨mc, ⟨o, es, ep, mv.keep _ _ (fun q => ?_) h1, h2, h3, h4⟩, fun y v e => ?_⟩, off, lo⟩
  · obtain ⟨o', vs', e', d', _⟩ := ta _ q
    rw [h1] at e'; cases e'; rw [h2] at d'; cases d'
  · obtain ⟨pv, a, b⟩ := hv y v e
    exact ⟨pv, a, mv.vr ta b⟩
theorem Moved.frok (ta : ∀ a ∈ as, Tame B s.heap a) (mv : Moved as s s') {e : Env} (f : FrOk B ρ s.heap e) : FrOk B ρ s'.heap e := by
  obtain ⟨k, La, o, h1, h2, h3, h4, h5⟩ := f
  refine ⟨k, La, o, h1, h2, mv.keep _ _ (fun q => ?_) h3, h4, h5⟩
  obtain ⟨o', vs', e', d', _⟩ := ta _ q
  rw [h3] at e'; cases e'; exact h4 _ d'
/-- a loop's own objects behind a step of its body -/
theorem Tame.off (st : St B ρ H s.heap) {a : Addr} (t : Tame B s.heap a) : Off ρ a := let ⟨o, vs, e, d, _, _, _, _⟩ := t; st.off e (.inl ⟨vs, d⟩)
theorem Tame.kept (st : St B ρ H s.heap) {ρ' : Rho} (x : Step B Lx ρ s ρ' s') {a : Addr} (t : Tame B s.heap a) : ∀ o, s.heap.get? a = some o → s'.heap.get? a = some o := fun o e => by
  have off := t.off st
  obtain ⟨o', vs, e', d, _, c1, c2, c3⟩ := t
  rw [e] at e'; cases e'
  refine x.keepF a o e off (fun q => ?_) ⟨vs, d⟩ c1 c2
  subst q
  obtain ⟨ps, z, _⟩ := st.tab
  rw [e] at z; cases z; exact c3 rfl
end it

theorem ok_moved {c : Cx} {fa : FrA} {m : LM} {H : HA} {A : Around} {env : Env} {L : Addr} {ρ : Rho} {s s' : Shared} {as : List Addr} (ta : ∀ a ∈ as, Tame c.B s.heap a) (lo : ∀ a ∈ as, c.B.h0.get? a = none) (mv : Moved as s s')
    (k : Ok c fa m H A env L ρ s) : Ok c fa m H A env L ρ s' :=
  ⟨⟨k.ak.hd, k.ak.dep, k.ak.uni, let ⟨l, h1, h2⟩ := k.ak.fr; ⟨l, h1, fun e he => mv.frok ta (h2 e he)⟩⟩, k.ev, mv.st ta lo k.st, mv.loc ta k.lc⟩

noncomputable def NX : Addr → LM → HA → Prop := fun _ _ _ => False
theorem NX.no {B : Bx} {F : Option Addr} {L : Addr} {ρ : Rho} {s s' : Shared} {e : Value} {P : Prop} (r : RzE B F L ρ s NX e s') : P := by
  obtain ⟨_, _, _, _, _, _, _, _, _, h⟩ := r
  exact h.elim

noncomputable abbrev TurnK (I : Nat → LM → HA → Prop) (i : Nat) (Q : Fl → LM → HA → Prop) : Fl → LM → HA → Prop := fun f m'' H'' => match f with
  | .next | .cont => I (i + 1) m'' H''
  | .brk => Q .next m'' H''
  | .ret v => Q (.ret v) m'' H''
noncomputable abbrev ForK (c : Cx) (fa : FrA) (body : List Stmt) (I : Nat → LM → HA → Prop) (i : Nat) (Q : Fl → LM → HA → Prop) : LM → HA → Prop := fun m' H' => ExW c fa body m' H' (TurnK I i Q) NX
noncomputable abbrev SeqK (c : Cx) (fa : FrA) (rest : List Stmt) (Q : Fl → LM → HA → Prop) (X : Addr → LM → HA → Prop) : Fl → LM → HA → Prop := fun f m1 H1 => match f with
  | .next => ExW c fa rest m1 H1 Q X
  | f => Q f m1 H1
noncomputable abbrev NxtK (m : LM) (Q : Fl → LM → HA → Prop) : V → HA → Prop := fun _ H1 => Q .next m H1
noncomputable abbrev RetK (m : LM) (Q : Fl → LM → HA → Prop) : V → HA → Prop := fun v H1 => Q (.ret v) m H1
noncomputable abbrev AsgK (x : Str) (m : LM) (Q : Fl → LM → HA → Prop) : V → HA → Prop := fun v H1 => Q .next (fset x v m) H1
noncomputable abbrev AsgC (n : Nat) (m : LM) (Q : Fl → LM → HA → Prop) : V → HA → Prop := fun v H1 => (∃ w, H1[n]? = some (.cell w)) ∧ Q .next m (H1.set n (.cell (some v)))
noncomputable abbrev IfS (c : Cx) (fa : FrA) (m : LM) (b o : List Stmt) (Q : Fl → LM → HA → Prop) (X : Addr → LM → HA → Prop) : Bool → HA → Prop := fun z H1 => if z then ExW c fa b m H1 Q X else ExW c fa o m H1 Q X
noncomputable abbrev NxM (m : LM) (Q : Fl → LM → HA → Prop) : HA → Prop := fun H3 => Q .next m H3
noncomputable abbrev AtrK2 (c : Cx) (attr : Str) (v : V) (m : LM) (Q : Fl → LM → HA → Prop) : V → HA → Prop := fun ov H2 => OpU2 c (SetF attr) ov v H2 (NxM m Q)
noncomputable abbrev AtrK (c : Cx) (fa : FrA) (o : Expr) (attr : Str) (m : LM) (Q : Fl → LM → HA → Prop) (X : Addr → LM → HA → Prop) : V → HA → Prop := fun v H1 => EvW c fa o m H1 (AtrK2 c attr v m Q) X
noncomputable abbrev ItmK3 (c : Cx) (ov v : V) (m : LM) (Q : Fl → LM → HA → Prop) : V → HA → Prop := fun iv H3 => OpU3 c setItem ov iv v H3 (NxM m Q)
noncomputable abbrev ItmK2 (c : Cx) (fa : FrA) (i : Expr) (v : V) (m : LM) (Q : Fl → LM → HA → Prop) (X : Addr → LM → HA → Prop) : V → HA → Prop := fun ov H2 => EvW c fa i m H2 (ItmK3 c ov v m Q) X
noncomputable abbrev ItmK (c : Cx) (fa : FrA) (o i : Expr) (m : LM) (Q : Fl → LM → HA → Prop) (X : Addr → LM → HA → Prop) : V → HA → Prop := fun v H1 => EvW c fa o m H1 (ItmK2 c fa i v m Q X) X
noncomputable abbrev NxK (Q : Fl → LM → HA → Prop) : LM → HA → Prop := fun m' H' => Q .next m' H'
noncomputable abbrev TgtK (c : Cx) (fa : FrA) (t : Expr) (m : LM) (Q : Fl → LM → HA → Prop) : V → HA → Prop := fun v H1 => TgW c fa t v m H1 (NxK Q)
noncomputable abbrev XcgK (names : List Str) (m : LM) (Q : Fl → LM → HA → Prop) : V → HA → Prop := fun v H1 => match v with
  | .tup xs => xs.length = names.length ∧ Q .next ((names.reverse.zip xs.reverse).foldl (fun m p => fset p.1 p.2 m) m) H1
  | _ => False
theorem XcgK.inv {names : List Str} {m : LM} {Q : Fl → LM → HA → Prop} {v : V} {H1 : HA} (h : XcgK names m Q v H1) : ∃ xs, v = .tup xs ∧ xs.length = names.length ∧ Q .next ((names.reverse.zip xs.reverse).foldl (fun m p => fset p.1 p.2 m) m) H1 := by
  cases v <;> first | exact h.elim | exact ⟨_, rfl, h⟩
noncomputable abbrev RefK (w : V) (I : Nat → LM → HA → Prop) (m : LM) : V → HA → Prop := fun v H1 => v = w ∧ I 0 m H1

inductive ForI (c : Cx) (fa : FrA) (A : Around) (env : Env) (L : Addr) (ρ₀ ρ₁ : Rho) (s₀ : Shared) (nm : Nat) (q : Addr × Addr) (It : Nat → Heap → Prop) (I : Nat → LM → HA → Prop) (N n : Nat) (s : Shared) : Prop
  | mk (i : Nat) (ρ : Rho) (m : LM) (H : HA) : n = N - i → i ≤ N → Step c.B (some L) ρ₀ s₀ ρ s → Ok c fa m H A env L ρ s → (nm < ρ₁.length → ρ[nm]? = some q) → It i s.heap → I i m H → ForI c fa A env L ρ₀ ρ₁ s₀ nm q It I N n s
/-- the heart of a for -/
theorem for_core {c : Cx} {fa : FrA} {target : Expr} {body : List Stmt} {A : Around} {env : Env} {L : Addr} {ρ₀ ρ₁ : Rho} {s₀ s₁ : Shared} {m₁ : LM} {H₁ : HA} {it : Addr} {as : List Addr} {It : Nat → Heap → Prop} {N : Nat} {item : Nat → V} {I : Nat → LM → HA → Prop}
    {Q : Fl → LM → HA → Prop} {X : Addr → LM → HA → Prop} {nm : Nat} {q : Addr × Addr}
    (x1 : Step c.B (some L) ρ₀ s₀ ρ₁ s₁) (k1 : Ok c fa m₁ H₁ A env L ρ₁ s₁) (hq : nm < ρ₁.length → ρ₁[nm]? = some q) (dead : ∀ a ∈ as, s₀.heap.get? a = none) (lo : ∀ a ∈ as, c.B.h0.get? a = none) (i1 : It 0 s₁.heap) (inv : I 0 m₁ H₁)
    (tame : ∀ i h, It i h → ∀ a ∈ as, Tame c.B h a) (frame : ∀ i h h', It i h → (∀ a ∈ as, ∀ o, h.get? a = some o → h'.get? a = some o) → It i h')
    (next : ∀ i ρ s m H (E : Value → Shared → Prop), i < N → I i m H → St c.B ρ H s.heap → (nm < ρ₁.length → ρ[nm]? = some q) → It i s.heap →
      wpAny c.B.M A (pyNext (.ref it)) (fun r s' => match r with
        | none => False
        | some v => wpAny c.B.M A (letOwnedTupleGo target (.ref it) v) (fun _ s'' => ∃ s3 : Shared, s'' = s3 ∧ Moved as s s3 ∧ It (i + 1) s3.heap ∧ VR c.B s3.heap ρ (item i) v) E s') E s)
    (stop : ∀ ρ s m H (E : Value → Shared → Prop), I N m H → St c.B ρ H s.heap → (nm < ρ₁.length → ρ[nm]? = some q) → It N s.heap → wpAny c.B.M A (pyNext (.ref it)) (fun r s' => r = none ∧ Moved as s s') E s)
    (turn : ∀ i m H, i < N → I i m H → TgW c fa target (item i) m H (ForK c fa body I i Q))
    (done : ∀ m H, I N m H → Q .next m H) :
    codeAny c.B.M A (.forLoop target (.ref it) body [] env) (fun r s' => match r with
      | .ok f => ExP c.B L ρ₀ s₀ Q f s'
      | .error e => cameBackBy c.B.M A env (RzE c.B env.frame L ρ₀ s₀ X) e s') s₁ := by
  suffices g : ∀ (R : Result → Shared → Prop), (∀ f s', ExP c.B L ρ₀ s₀ Q f s' → R (.ok f) s') → codeAny c.B.M A (.forLoop target (.ref it) body [] env) R s₁ from g _ fun _ _ z => z
  intro R hR
  refine codeAny_forLoop_any (ForI c fa A env L ρ₀ ρ₁ s₀ nm q It I N) ?_ N ⟨0, ρ₁, m₁, H₁, rfl, Nat.zero_le _, x1, k1, hq, i1, inv⟩
  rintro n s ⟨i, ρ, m, H, hn, hi, x, k, hr, hit, hI⟩
  by_cases hlt : i < N
  · refine wpAny_mono (next i ρ s m H _ hlt hI k.st hr hit) (fun r s' h => ?_) fun _ _ e => e
    cases r with
    | none => exact h.elim
    | some v =>
      refine wpAny_mono h ?_ fun _ _ e => e
      rintro _ s'' ⟨s3, e3, mv, it3, vr⟩
      subst e3
      have ta := tame i _ hit
      have k3 := ok_moved ta lo mv k
      have x3 := mv.step ta dead x
      refine wpAny_mono (turn i m H hlt hI A env L ρ s'' v _ k3 vr) ?_ fun _ _ e => e
      rintro _ s4 ⟨ρ4, m4, H4, x4, st4, l4, hb⟩
      have k4 := k3.next x4 st4 l4
      have ta3 := tame _ _ it3
      have it4 : It (i + 1) s4.heap := frame _ _ _ it3 fun a ha => (ta3 a ha).kept k3.st x4
      refine wpAny_mono (hb A env L ρ4 s4 k4) ?_ fun e s5 r => NX.no r
      rintro f s5 ⟨ρ5, m5, H5, f5, x5, st5, l5, fo, hq5⟩
      have ta4 := tame _ _ it4
      have it5 : It (i + 1) s5.heap := frame _ _ _ it4 fun a ha => (ta4 a ha).kept st4 x5
      cases f5 <;> cases f <;> try exact fo.elim
      · exact ⟨N - (i + 1), by lia, i + 1, ρ5, m5, H5, rfl, hlt, (x3.trans x4).trans x5, k4.next x5 st5 l5, fun z => (x4.trans x5).grow (hr z), it5, hq5⟩
      · exact hR _ _ ⟨ρ5, m5, H5, .next, (x3.trans x4).trans x5, st5, l5, trivial, hq5⟩
      · exact ⟨N - (i + 1), by lia, i + 1, ρ5, m5, H5, rfl, hlt, (x3.trans x4).trans x5, k4.next x5 st5 l5, fun z => (x4.trans x5).grow (hr z), it5, hq5⟩
      · exact hR _ _ ⟨ρ5, m5, H5, .ret _, (x3.trans x4).trans x5, st5, l5, fo, hq5⟩
  · have : i = N := by lia
    subst this
    refine wpAny_mono (stop ρ s m H _ hI k.st hr hit) ?_ fun _ _ e => e
    rintro r s' ⟨hr', mv⟩
    subst hr'
    have ta := tame _ _ hit
    have k3 := ok_moved ta lo mv k
    exact wpAny_execs_nil (hR _ _ ⟨ρ, m, H, .next, mv.step ta dead x, k3.st, k3.lc, trivial, done m H hI⟩)

section stmts
variable {c : Cx} {fa : FrA} {m : LM} {H : HA} {Q : Fl → LM → HA → Prop} {X : Addr → LM → HA → Prop}
theorem ex_nil (hq : Q .next m H) : ExW c fa [] m H Q X := fun A env L ρ s k => wpAny_execs_nil ⟨ρ, m, H, .next, Step.refl, k.st, k.lc, trivial, hq⟩
theorem ex_cons {st : Stmt} {rest : List Stmt} (h : ExS c fa st m H (SeqK c fa rest Q X) X) : ExW c fa (st :: rest) m H Q X := fun A env L ρ s k => by
  refine wpAny_execs_cons (wpAny_mono (h A env L ρ s k) ?_ fun _ _ e => e)
  rintro f s₁ ⟨ρ₁, m₁, H₁, f', x1, st1, l1, fo, h1⟩
  cases f' <;> cases f <;> try exact fo.elim
  · exact wpAny_mono (h1 A env L ρ₁ s₁ (k.next x1 st1 l1)) (fun _ _ r => r.after x1) fun _ _ r => r.after x1
  all_goals exact ⟨ρ₁, m₁, H₁, _, x1, st1, l1, fo, h1⟩
theorem xs_expr {e : Expr} {pos : Pos} (h : EvW c fa e m H (NxtK m Q) X) (hs : ∀ env, swapsWith e none pos.line env = pure false := by intro _; with_unfolding_all rfl) : ExS c fa (.Expr e pos) m H Q X := fun A env L ρ s k =>
  wpAny_Expr_any (wpAny_mono (h A env L ρ s k) (by rintro _ s₁ ⟨ρ₁, H₁, v, x1, st1, l1, _, q⟩; exact ⟨ρ₁, m, H₁, .next, x1, st1, l1, trivial, q⟩) fun _ _ r => r) (by unfold interactive; rw [k.ev.sc, k.ev.kind]; rfl) (hs env)
theorem xs_ret {e : Expr} {pos : Pos} (h : EvW c fa e m H (RetK m Q) X) : ExS c fa (.Return (some e) pos) m H Q X := fun A env L ρ s k =>
  wpAny_Return_some (wpAny_mono (h A env L ρ s k) (by rintro _ s₁ ⟨ρ₁, H₁, v, x1, st1, l1, r, q⟩; exact ⟨ρ₁, m, H₁, .ret v, x1, st1, l1, r, q⟩) fun _ _ r => r)
theorem xs_brk {pos : Pos} (hq : Q .brk m H) : ExS c fa (.Break pos) m H Q X := fun A env L ρ s k => wpAny_Break ⟨ρ, m, H, .brk, Step.refl, k.st, k.lc, trivial, hq⟩
theorem xs_cont {pos : Pos} (hq : Q .cont m H) : ExS c fa (.Continue pos) m H Q X := fun A env L ρ s k => wpAny_Continue ⟨ρ, m, H, .cont, Step.refl, k.st, k.lc, trivial, hq⟩
theorem xs_if {t : Expr} {b o : List Stmt} {pos : Pos} (h : TsW c fa t m H (IfS c fa m b o Q X) X) : ExS c fa (.If t b o pos) m H Q X := fun A env L ρ s k => by
  refine wpAny_If (wpAny_mono (h A env L ρ s k) ?_ fun _ _ r => r)
  rintro z s₁ ⟨ρ₁, H₁, x1, st1, l1, h1⟩
  have k1 := k.next x1 st1 l1
  cases z
  · exact wpAny_mono (h1 A env L ρ₁ s₁ k1) (fun _ _ r => r.after x1) fun _ _ r => r.after x1
  · exact wpAny_mono (h1 A env L ρ₁ s₁ k1) (fun _ _ r => r.after x1) fun _ _ r => r.after x1
theorem xs_asg {x : Str} {p pos : Pos} {value : Expr} (h : EvW c fa value m H (AsgK x m Q) X) (hx : fa.cs.names.lookup x = some .local) (hs : ∀ env, swapsWith value (some (.Name x p)) pos.line env = pure false := by intro _; with_unfolding_all rfl) :
    ExS c fa (.Assign [.Name x p] value pos) m H Q X := fun A env L ρ s k => by
  refine wpAny_Assign_Name (wpAny_mono (h A env L ρ s k) ?_ fun _ _ r => r) (hs env)
  rintro pv s₁ ⟨ρ₁, H₁, v, x1, st1, l1, r, q⟩
  exact wpAny_mono (store_loc (k.next x1 st1 l1) hx r) (by rintro _ s₂ ⟨x2, st2, l2⟩; exact ⟨ρ₁, _, H₁, .next, x1.trans x2, st2, l2, trivial, q⟩) fun _ _ e => e
theorem xs_asgC {x : Str} {p pos : Pos} {value : Expr} {n : Nat} (h : EvW c fa value m H (AsgC n m Q) X) (hx : fa.cs.names.lookup x = some .cell) (hc : fa.cl.lookup x = some n) (hs : ∀ env, swapsWith value (some (.Name x p)) pos.line env = pure false := by intro _; with_unfolding_all rfl) :
    ExS c fa (.Assign [.Name x p] value pos) m H Q X := fun A env L ρ s k => by
  refine wpAny_Assign_Name (wpAny_mono (h A env L ρ s k) ?_ fun _ _ r => r) (hs env)
  rintro pv s₁ ⟨ρ₁, H₁, v, x1, st1, l1, r, ⟨w, hw⟩, q⟩
  exact wpAny_mono (store_cell (k.next x1 st1 l1) hx hc hw r) (by rintro _ s₂ ⟨x2, st2, l2⟩; exact ⟨ρ₁, _, _, .next, x1.trans x2, st2, l2, trivial, q⟩) fun _ _ e => e
theorem xs_asgA {o : Expr} {attr : Str} {p pos : Pos} {value : Expr} (h : EvW c fa value m H (AtrK c fa o attr m Q X) X)
    (hs : ∀ env, swapsWith value (some (.Attribute o attr p)) pos.line env = pure false := by intro _; with_unfolding_all rfl) : ExS c fa (.Assign [.Attribute o attr p] value pos) m H Q X := fun A env L ρ s k => by
  refine plainObj_wpAny_Assign_Attribute (wpAny_mono (h A env L ρ s k) ?_ fun _ _ r => r) (hs env)
  rintro pv s₁ ⟨ρ₁, H₁, v, x1, st1, l1, r, h1⟩
  have k1 := k.next x1 st1 l1
  refine wpAny_mono (h1 A env L ρ₁ s₁ k1) ?_ fun _ _ r => r.after x1
  rintro po s₂ ⟨ρ₂, H₂, ov, x2, st2, l2, ro, h2⟩
  have k2 := k1.next x2 st2 l2
  exact wpAny_mono (h2 A ρ₂ s₂ po pv k2.ak st2 ro (r.mono st1 l1.lx x2)) (by rintro _ s₃ ⟨ρ₃, H₃, x3, st3, q⟩; exact ⟨ρ₃, m, H₃, .next, (x1.trans x2).trans (x3.atL l2.off), st3, l2.mono st2 x3, trivial, q⟩) fun _ _ e => e.elim
theorem xs_asgI {o i : Expr} {p pos : Pos} {value : Expr} (h : EvW c fa value m H (ItmK c fa o i m Q X) X)
    (hs : ∀ env, swapsWith value (some (.Subscript o i p)) pos.line env = pure false := by intro _; with_unfolding_all rfl) : ExS c fa (.Assign [.Subscript o i p] value pos) m H Q X := fun A env L ρ s k => by
  refine wpAny_Assign_Subscript (wpAny_mono (h A env L ρ s k) ?_ fun _ _ r => r) (hs env)
  rintro pv s₁ ⟨ρ₁, H₁, v, x1, st1, l1, r, h1⟩
  have k1 := k.next x1 st1 l1
  refine wpAny_mono (h1 A env L ρ₁ s₁ k1) ?_ fun _ _ r => r.after x1
  rintro po s₂ ⟨ρ₂, H₂, ov, x2, st2, l2, ro, h2⟩
  have k2 := k1.next x2 st2 l2
  refine wpAny_mono (h2 A env L ρ₂ s₂ k2) ?_ fun _ _ r => r.after (x1.trans x2)
  rintro pi s₃ ⟨ρ₃, H₃, iv, x3, st3, l3, ri, h3⟩
  have k3 := k2.next x3 st3 l3
  exact wpAny_mono (h3 A ρ₃ s₃ po pi pv k3.ak st3 (ro.mono st2 l2.lx x3) ri ((r.mono st1 l1.lx x2).mono st2 l2.lx x3)) (by rintro _ s₄ ⟨ρ₄, H₄, x4, st4, q⟩; exact ⟨ρ₄, m, H₄, .next, ((x1.trans x2).trans x3).trans (x4.atL l3.off), st4, l3.mono st3 x4, trivial, q⟩) fun _ _ e => e.elim

/-! unpacking -/
theorem tg_tup {es : List Expr} {k : Nat} {pos : Pos} {xs : List V} {Q : LM → HA → Prop} (hn : c.hv = none) (h : TgsW c fa es xs m H Q) (hl : es.length = xs.length) (he : ∀ env, (assignEach es env).length = es.length := by intro _; with_unfolding_all rfl) (hst : ∀ env, (assignEach es env).findIdx? (·.1) = none := by intro _; with_unfolding_all rfl) :
    TgW c fa (.Tuple es k pos) (.tup xs) m H Q := fun A env L ρ s pv E ok hv => by
  obtain ⟨vs, ta, rfl, ht, hlv, hg⟩ := hv.tup_inv
  refine wpAny_assign_Tuple (ok.ak.hd.trans hn) ht (by rw [he]; simp; lia) (hst env) fun h' hx => ?_
  obtain ⟨x1, st1⟩ := ext_step ok.st hx
  have l1 := ok.lc.mono ok.st x1
  exact wpAny_mono (h A env L ρ _ _ E (ok.next (x1.atL ok.lc.off) st1 l1) ((VRs.of_get hlv hg).mono ok.st .none x1)) (fun _ _ r => r.after (x1.atL ok.lc.off)) fun _ _ e => e
theorem tg_lst {es : List Expr} {k : Nat} {pos : Pos} {xs : List V} {n : Nat} {Q : LM → HA → Prop} (hn : c.hv = none) (hH : H[n]? = some (.list xs)) (h : TgsW c fa es xs m H Q) (hl : es.length = xs.length) (he : ∀ env, (assignEach es env).length = es.length := by intro _; with_unfolding_all rfl) (hst : ∀ env, (assignEach es env).findIdx? (·.1) = none := by intro _; with_unfolding_all rfl) :
    TgW c fa (.Tuple es k pos) (.ref n) m H Q := fun A env L ρ s pv E ok hv => by
  obtain ⟨_, rfl, e⟩ := hv.ref_inv
  obtain ⟨hqq, vs, kk, h1, hr⟩ := ok.st.ref hH e
  have hlv := hr.length
  rw [arm_assign_Tuple]
  refine wpAny_bind (wpAny_standAt ?_)
  unfold unpack
  have e1 : (assignEach es env).length = vs.toArray.size := by rw [he]; simp; lia
  rw [e1, hst]
  refine wpAny_bind (wpAny_holding (kun_itemsOf (ok.ak.hd.trans hn) h1.isList fun h' hx => ?_))
  obtain ⟨x1, st1⟩ := ext_step ok.st hx
  have l1 := ok.lc.mono ok.st x1
  exact wpAny_mono (h A env L ρ _ _ E (ok.next (x1.atL ok.lc.off) st1 l1) (hr.mono ok.st .none x1)) (fun _ _ r => r.after (x1.atL ok.lc.off)) fun _ _ e => e
/-- a, b = .. where the stores go from left to right -/
theorem xs_asgT {es : List Expr} {k : Nat} {tp pos : Pos} {value : Expr} (h : EvW c fa value m H (TgtK c fa (.Tuple es k tp) m Q) X)
    (hs : ∀ env, swapsWithSole [.Tuple es k tp] value pos.line env = pure false) (hw : ∀ env, env.scope = fa.cs → swappedStores [.Tuple es k tp] value env = pure none) : ExS c fa (.Assign [.Tuple es k tp] value pos) m H Q X := fun A env L ρ s k => by
  refine Assign_Tuple (wpAny_mono (h A env L ρ s k) ?_ fun _ _ r => r) (hs env) (hw env k.ev.sc)
  rintro pv s₁ ⟨ρ₁, H₁, v, x1, st1, l1, r, h1⟩
  exact wpAny_mono (h1 A env L ρ₁ s₁ pv _ (k.next x1 st1 l1) r) (by rintro _ s₂ ⟨ρ₂, m₂, H₂, x2, st2, l2, q⟩; exact ⟨ρ₂, m₂, H₂, .next, x1.trans x2, st2, l2, trivial, q⟩) fun _ _ e => e
/-- a, b = x, y with the machine's exchanged stores -/
theorem xs_asgX {es : List Expr} {kk : Nat} {tp pos : Pos} {value : Expr} {names : List Str} (hn : c.hv = none)
    (h : EvW c fa value m H (XcgK names m Q) X)
    (hs : ∀ env, swapsWithSole [.Tuple es kk tp] value pos.line env = pure false) (hw : ∀ env, env.scope = fa.cs → swappedStores [.Tuple es kk tp] value env = pure (some names))
    (hx : ∀ x ∈ names, fa.cs.names.lookup x = some .local) : ExS c fa (.Assign [.Tuple es kk tp] value pos) m H Q X := fun A env L ρ s k => by
  have stores : ∀ (ns : List Str) (xs : List V) (pvs : List Value) (m : LM) (ρ : Rho) (s : Shared) (H : HA) (E : Value → Shared → Prop), (∀ x ∈ ns, fa.cs.names.lookup x = some .local) → ns.length = xs.length → Ok c fa m H A env L ρ s → VRs c.B s.heap ρ xs pvs →
      wpAny c.B.M A (assignInOrder (ns.map fun n => bindName env n) pvs) (fun _ s' => Step c.B (some L) ρ s ρ s' ∧ St c.B ρ H s'.heap ∧ Loc c.B L ((ns.zip xs).foldl (fun m p => fset p.1 p.2 m) m) ρ s'.heap) E s := by
    intro ns
    induction ns with
    | nil =>
      intro xs pvs m ρ s H E _ hl ok hv
      match xs, pvs, hl, hv with
      | [], [], _, _ => exact wpAny_assignInOrder_none ⟨Step.refl, ok.st, ok.lc⟩
    | cons n ns ih =>
      intro xs pvs m ρ s H E hns hl ok hv
      match xs, pvs, hl, hv with
      | x :: xs, pv :: pvs, hl, hv =>
        refine wpAny_assignInOrder_more (wpAny_bindName (wpAny_mono (store_loc (E := E) ok (hns n (.head _)) hv.1) ?_ fun _ _ e => e))
        rintro _ s1 ⟨x1, st1, l1⟩
        exact wpAny_mono (ih xs pvs _ ρ s1 H E (fun y hy => hns y (.tail _ hy)) (by simpa using hl) (ok.next x1 st1 l1) (hv.2.mono ok.st ok.lc.lx x1)) (by rintro _ s2 ⟨x2, r⟩; exact ⟨x1.trans x2, r⟩) fun _ _ e => e
  rw [arm_exec_Assign]
  refine wpAny_bind (wpAny_standAt ?_)
  rw [hs env]
  refine wpAny_bind (wpAny_pure ?_)
  simp only [Bool.false_eq_true, if_false]
  refine wpAny_bind (wpAny_mono (h A env L ρ s k) ?_ fun _ _ r => r)
  rintro pv s₁ ⟨ρ₁, H₁, v, x1, st1, l1, r, h1⟩
  rw [hw env k.ev.sc]
  refine wpAny_bind (wpAny_pure ?_)
  obtain ⟨xs, rfl, hl, q⟩ := XcgK.inv h1
  obtain ⟨vs, ta, rfl, ht, hlv, hg⟩ := r.tup_inv
  ·
    unfold assignStores
    have k1 := k.next x1 st1 l1
    refine wpAny_bind (wpAny_rule ?_)
    have e1 : names.length = vs.toArray.size := by simp; lia
    rw [e1]
    refine wpAny_bind (wpAny_unpackItems_tuple (k1.ak.hd.trans hn) ht fun h' hx' => ?_)
    obtain ⟨x2, st2⟩ := ext_step st1 hx'
    have l2 := l1.mono st1 x2
    refine wpAny_bind (wpAny_mono (stores names.reverse xs.reverse vs.reverse m ρ₁ _ H₁ _ (fun x hx'' => hx x (List.mem_reverse.mp hx'')) (by simp; lia) (k1.next (x2.atL l1.off) st2 l2) (((VRs.of_get hlv hg).mono st1 .none x2).reverse)) ?_ fun _ _ e => e)
    rintro _ s3 ⟨x3, st3, l3⟩
    exact wpAny_pure ⟨ρ₁, _, H₁, .next, (x1.trans (x2.atL l1.off)).trans x3, st3, l3, trivial, q⟩
end stmts
/-! ### PK -/
theorem ForX {c : Cx} {A : Around} {env : Env} {L : Addr} {ρ : Rho} {s : Shared} {target iter : Expr} {body : List Stmt} {pos : Pos} {Q : Fl → LM → HA → Prop} {X : Addr → LM → HA → Prop}
    (h : wpAny c.B.M A (eval iter env) (fun x s₁ => wpAny c.B.M A (pyIter x) (fun it s₂ => codeAny c.B.M A (.forLoop target it body [] env) (fun r s' => match r with
      | .ok f => ExP c.B L ρ s Q f s'
      | .error e => cameBackBy c.B.M A env (RzE c.B env.frame L ρ s X) e s') s₂) (RzE c.B env.frame L ρ s X) s₁) (RzE c.B env.frame L ρ s X) s)
    (hf : ∀ env x, foldedSetIterable iter env x = pure x) :
    wpAny c.B.M A (exec (.For target iter body [] pos) env) (ExP c.B L ρ s Q) (RzE c.B env.frame L ρ s X) s :=
  wpAny_For (wpAny_mono h (fun x s₁ h1 => wpAny_mono h1 (fun it s₂ h2 => codeAny_mono h2 fun r s' z => by cases r <;> exact z) fun _ _ e => e) fun _ _ e => e) (hf env)

theorem letGo_name {M : Model} {A : Around} {x : Str} {p : Pos} {it v : Value} {R : Unit → Shared → Prop} {E : Value → Shared → Prop} {s : Shared} (h : R () s) : wpAny M A (letOwnedTupleGo (.Name x p) it v) R E s := wpAny_pure h

/-- a target that a loop may have -/
inductive Tgt : Expr → Prop
  | name (x : Str) (p : Pos) : Tgt (.Name x p)
  | tup (es : List Expr) (k : Nat) (p : Pos) : Tgt (.Tuple es k p)
section fors
variable {c : Cx} {fa : FrA} {m : LM} {H : HA} {Q : Fl → LM → HA → Prop} {X : Addr → LM → HA → Prop} {target : Expr} {body : List Stmt} {pos : Pos}

theorem moved_one {s s' : Shared} {it : Addr} (h : Heap.SameBut it s.heap s'.heap) (g : s'.gens = s.gens) (o : s'.os = s.os) : Moved [it] s s' := ⟨fun b ob hb e => (h.2 b (by simpa using hb)).trans e, g, o⟩

theorem xs_for_list {iter : Expr} {n : Nat} {xs : List V} (I : Nat → LM → HA → Prop) (hn : c.hv = none) (ht : Tgt target) (hit : EvW c fa iter m H (RefK (.ref n) I m) X) (hI : ∀ i m H, I i m H → H[n]? = some (.list xs))
    (turn : ∀ i x m H, xs[i]? = some x → I i m H → TgW c fa target x m H (ForK c fa body I i Q))
    (done : ∀ m H, I xs.length m H → Q .next m H) (hf : ∀ env x, foldedSetIterable iter env x = pure x := by intro _ _; with_unfolding_all rfl) : ExS c fa (.For target iter body [] pos) m H Q X := fun A env L ρ s k => by
  refine ForX (wpAny_mono (hit A env L ρ s k) ?_ fun _ _ e => e) hf
  rintro pv s₁ ⟨ρ₁, H₁, v, x1, st1, l1, r, hv, h1⟩
  subst hv
  obtain ⟨q, rfl, e⟩ := r.ref_inv
  have k1 := k.next x1 st1 l1
  obtain ⟨hqq, vs, kk, g1, hr⟩ := st1.ref (hI _ _ _ h1) e
  refine wpAny_pyIter_list g1.isList ?_
  have kp : ∀ b o, s₁.heap.get? b = some o → (s₁.heap.push { cls := .type "list_iterator", data := .fields #[.ref q.1, .int 0 0] }).get? b = some o := fun b o e => Heap.get?_push_of_some _ e
  have x2 : Step c.B none ρ₁ s₁ ρ₁ { s₁ with heap := s₁.heap.push { cls := .type "list_iterator", data := .fields #[.ref q.1, .int 0 0] } } := Step.ext kp rfl rfl
  have st2 := St.ext (s' := { s₁ with heap := s₁.heap.push { cls := .type "list_iterator", data := .fields #[.ref q.1, .int 0 0] } }) st1 kp rfl rfl
  have l2 := l1.mono st1 x2
  have hnone : s₁.heap.get? s₁.heap.objs.size = none := Heap.get?_none_of_le (Nat.le_refl _)
  refine for_core (nm := n) (q := q) (as := [s₁.heap.objs.size]) (It := fun i h => h.IsListIter s₁.heap.objs.size q.1 i) (N := xs.length) (item := fun i => xs.getD i .none) (I := I) (x1.trans (x2.atL l1.off)) (k1.next (x2.atL l1.off) st2 l2) (fun _ => e)
    (fun a ha => by cases List.mem_singleton.mp ha; exact dead_of x1.live hnone) (fun a ha => by cases List.mem_singleton.mp ha; exact dead_of (fun a o e => ⟨o, st1.base a o e⟩) hnone)
    ⟨_, Heap.get?_push_size _ rfl, rfl, rfl⟩ h1 (fun i h hi a ha => ?_) (fun i h h' hi hk => ?_) (fun i ρ s m H E hlt hII st hq hi => ?_) (fun ρ s m H E hII st hq hi => ?_) (fun i m H hlt hII => ?_) done
  · cases List.mem_singleton.mp ha
    obtain ⟨o, z1, z2, z3⟩ := hi
    exact ⟨o, _, z1, z3, by simp, by rw [z2]; decide, by rw [z2]; simp, by rw [z2]; simp⟩
  · obtain ⟨o, z1, z2, z3⟩ := hi
    exact ⟨o, hk _ (.head _) o z1, z2, z3⟩
  · have e' := hq (List.getElem?_eq_some_iff.mp e).1
    obtain ⟨_, ws, k3, g3, hr3⟩ := st.ref (hI _ _ _ hII) e'
    obtain ⟨pv, e1, e2⟩ := hr3.exists_get (List.getElem?_eq_getElem hlt)
    refine wpAny_pyNext_list_item hi g3.isList (by simpa using e1) fun h' hi' hs => ?_
    have mv : Moved [s₁.heap.objs.size] s { s with heap := h' } := moved_one hs rfl rfl
    have ta : ∀ a ∈ [s₁.heap.objs.size], Tame c.B s.heap a := fun a ha => by
      cases List.mem_singleton.mp ha
      obtain ⟨o, z1, z2, z3⟩ := hi
      exact ⟨o, _, z1, z3, by simp, by rw [z2]; decide, by rw [z2]; simp, by rw [z2]; simp⟩
    have fin : ∃ s3 : Shared, ({ s with heap := h' } : Shared) = s3 ∧ Moved [s₁.heap.objs.size] s s3 ∧ s3.heap.IsListIter s₁.heap.objs.size q.1 (i + 1) ∧ VR c.B s3.heap ρ (xs.getD i .none) pv := by
      refine ⟨_, rfl, mv, hi', ?_⟩
      rw [List.getD_eq_getElem?_getD, List.getElem?_eq_getElem hlt]
      exact mv.vr ta e2
    cases ht with
    | name x p => exact letGo_name fin
    | tup es kt p =>
      cases pv with
      | ref T => exact wpAny_letOwnedTupleGo_listiter hi' fin
      | _ => exact wpAny_pure fin
  · have e' := hq (List.getElem?_eq_some_iff.mp e).1
    obtain ⟨_, ws, k3, g3, hr3⟩ := st.ref (hI _ _ _ hII) e'
    have hl := hr3.length
    refine wpAny_pyNext_list_end (k.ak.hd.trans hn) hi g3.isList (by simp; lia) fun h' hx => ⟨rfl, ?_⟩
    exact ⟨fun b ob hb e => hx b ob (by simpa using hb) e, rfl, rfl⟩
  · have := turn i (xs.getD i .none) m H (by rw [List.getD_eq_getElem?_getD, List.getElem?_eq_getElem hlt]; rfl) hII
    exact this

/-- a name that stands for a built-in type, called with one argument -/
noncomputable def TyName (c : Cx) (fa : FrA) (x : Str) (n : String) : Prop := nsIn c.B.K mainGlobals x = some none ∧ bootBuiltins x = some (.type n) ∧ fa.cs.names.lookup x = some .globalImplicit ∧ (x == ("__debug__" : Str)) = false ∧ x ≠ "__name__"
theorem ty_call1 {f : Str} {fp pos : Pos} {e : Expr} {n : String} {A : Around} {env : Env} {L : Addr} {ρ : Rho} {s : Shared} {R : Value → Shared → Prop} {E : Value → Shared → Prop} (k : Ok c fa m H A env L ρ s) (hf : TyName c fa f n)
    (h : wpAny c.B.M A (eval e env) (fun v s₁ => wpAny c.B.M A (call (.type n) [v]) R E s₁) E s) (he : ∀ env, starEach [e] env = [(false, eval e env)]) : wpAny c.B.M A (eval (.Call (.Name f fp) [e] [] pos) env) R E s := by
  obtain ⟨h1, h2, h3, h4, h5⟩ := hf
  refine wpAny_Call_NameR (Calls.Name_function_global (by rw [k.ev.sc]; exact k.ev.kind) (by unfold Env.kindOf; rw [k.ev.sc]; exact h3) (Calls.loadGlobal_builtin (by rw [k.ev.glob]; exact c.B.T.g.keeps k.st.base) (mg_none_of c.B.X c.B.T.g h1) (by rw [k.ev.blt]; exact c.B.T.b.keeps k.st.base) ((c.B.T.builtins f h5).trans h2) ?_) h4)
  have hp : (backTo pos (starEach [e] env)).all (fun x => !x.1) = true := by rw [he]; rfl
  refine callWith_of (P := KeptAs (.type n)) (by rw [he]; rfl) (fun h k => k c.B.M) (args_of hp ?_)
  rw [he]
  refine Calls.spliced_cons (wpAny_mono h (fun v s₁ h1 => Calls.spliced_nil ⟨fun M => ⟨.machine, .inr (.inl rfl), Looks.of_pure rfl⟩, ?_⟩) fun _ _ e => e)
  exact h1

theorem xs_for_range {f : Str} {fp rp : Pos} {e : Expr} {N : Int} {x : Str} {xp : Pos} (I : Nat → LM → HA → Prop) (hn : c.hv = none) (hf : TyName c fa f "range") (hit : EvW c fa e m H (RefK (.int N) I m) X) (hb : N < 1000000) (hb' : -1000000 < N)
    (turn : ∀ (i : Nat) m H, (i : Int) < N → I i m H → TgW c fa (.Name x xp) (.int i) m H (ForK c fa body I i Q))
    (done : ∀ m H, I N.toNat m H → Q .next m H) (he : ∀ env, starEach [e] env = [(false, eval e env)] := by intro _; with_unfolding_all rfl) : ExS c fa (.For (.Name x xp) (.Call (.Name f fp) [e] [] rp) body [] pos) m H Q X := fun A env L ρ s k => by
  refine ForX (ty_call1 k hf (wpAny_mono (hit A env L ρ s k) ?_ fun _ _ e => e) he) (fun _ _ => rfl)
  rintro pv s₁ ⟨ρ₁, H₁, v, x1, st1, l1, r, hv, h1⟩
  subst hv
  obtain ⟨_, rfl⟩ := r.int_inv
  have k1 := k.next x1 st1 l1
  refine call_range_1 ?_
  refine wpAny_pyIter_range (Heap.get?_push_size _ rfl) (small_one (by decide) (by decide) (by lia) (by lia)) ?_
  have hsz : Builtin.Range.rangeSize 0 N 1 = (N.toNat : Int) := by rw [rangeSize_one]; split <;> lia
  rw [hsz]
  generalize hr : ({ cls := .type "range", data := .fields #[.int 0 s₁.toks, .int N _, .int 1 (s₁.toks + 1)] } : Obj) = ro
  generalize hri : ({ cls := .type "range_iterator", data := .fields #[rawInt 0, rawInt (N.toNat : Int), rawInt 1] } : Obj) = rio
  have kp : ∀ b o, s₁.heap.get? b = some o → ((s₁.heap.push ro).push rio).get? b = some o := fun b o e => Heap.get?_push_of_some _ (Heap.get?_push_of_some _ e)
  have x2 : Step c.B none ρ₁ s₁ ρ₁ { s₁ with heap := (s₁.heap.push ro).push rio, toks := s₁.toks + 1 + 1 } := Step.ext kp rfl rfl
  have st2 := St.ext (s' := { s₁ with heap := (s₁.heap.push ro).push rio, toks := s₁.toks + 1 + 1 }) st1 kp rfl rfl
  have l2 := l1.mono st1 x2
  have hlt : s₁.heap.objs.size < (s₁.heap.push ro).objs.size := by simp
  have hnone : s₁.heap.get? (s₁.heap.push ro).objs.size = none := Heap.get?_none_of_le (Nat.le_of_lt hlt)
  have tm : ∀ (i : Nat) (h : Heap), IsRangeIter h (s₁.heap.push ro).objs.size i ((N.toNat : Int) - i) 1 → ∀ a ∈ [(s₁.heap.push ro).objs.size], Tame c.B h a := fun i h hi a ha => by
    cases List.mem_singleton.mp ha
    exact ⟨_, _, hi, rfl, by simp [rawInt], by simp, by simp, by simp⟩
  refine for_core (nm := ρ₁.length) (q := (0, 0)) (as := [(s₁.heap.push ro).objs.size]) (It := fun i h => IsRangeIter h (s₁.heap.push ro).objs.size i ((N.toNat : Int) - i) 1) (N := N.toNat) (item := fun i => .int i) (I := I) (x1.trans (x2.atL l1.off)) (k1.next (x2.atL l1.off) st2 l2) ?_
    (fun a ha => by cases List.mem_singleton.mp ha; exact dead_of x1.live hnone) (fun a ha => by cases List.mem_singleton.mp ha; exact dead_of (fun a o e => ⟨o, st1.base a o e⟩) hnone)
    ?_ h1 tm (fun i h h' hi hk => hk _ (.head _) _ hi) (fun i ρ s m H E hlt hII st hq hi => ?_) (fun ρ s m H E hII st hq hi => ?_) (fun i m H hlt hII => turn i m H (by lia) hII) done
  · exact fun z => absurd z (Nat.lt_irrefl _)
  · show IsRangeIter ((s₁.heap.push ro).push rio) _ _ _ _
    have := Heap.get?_push_size (s₁.heap.push ro) (o := rio) (by rw [← hri]; rfl)
    rw [← hri] at this ⊢
    simpa using this
  · refine wpAny_pyNext_range_item hi (by lia) fun h' hi' hs => ?_
    refine letGo_name ⟨_, rfl, moved_one hs rfl rfl, ?_, .int _ _⟩
    have e1 : ((i + 1 : Nat) : Int) = (i : Int) + 1 := by lia
    have e2 : (N.toNat : Int) - ((i + 1 : Nat) : Int) = (N.toNat : Int) - i - 1 := by lia
    show IsRangeIter h' _ ((i + 1 : Nat) : Int) ((N.toNat : Int) - ((i + 1 : Nat) : Int)) 1
    rw [e2, e1]; exact hi'
  · refine wpAny_pyNext_range_end (k.ak.hd.trans hn) hi (by lia) fun h' hx => ⟨rfl, ?_⟩
    exact ⟨fun b ob hb e => hx b ob (by simpa using hb) e, rfl, rfl⟩

theorem xs_for_enum {f : Str} {fp rp : Pos} {e : Expr} {n : Nat} {xs : List V} {es : List Expr} {kt : Nat} {tp : Pos} (I : Nat → LM → HA → Prop) (hn : c.hv = none) (hf : TyName c fa f "enumerate") (hit : EvW c fa e m H (RefK (.ref n) I m) X) (hI : ∀ i m H, I i m H → H[n]? = some (.list xs))
    (turn : ∀ i x m H, xs[i]? = some x → I i m H → TgW c fa (.Tuple es kt tp) (.tup [.int i, x]) m H (ForK c fa body I i Q))
    (done : ∀ m H, I xs.length m H → Q .next m H) (he : ∀ env, starEach [e] env = [(false, eval e env)] := by intro _; with_unfolding_all rfl) : ExS c fa (.For (.Tuple es kt tp) (.Call (.Name f fp) [e] [] rp) body [] pos) m H Q X := fun A env L ρ s k => by
  refine ForX (ty_call1 k hf (wpAny_mono (hit A env L ρ s k) ?_ fun _ _ e => e) he) (fun _ _ => rfl)
  rintro pv s₁ ⟨ρ₁, H₁, v, x1, st1, l1, r, hv, h1⟩
  subst hv
  obtain ⟨q, rfl, e⟩ := r.ref_inv
  have k1 := k.next x1 st1 l1
  obtain ⟨hqq, vs, kk, g1, hr⟩ := st1.ref (hI _ _ _ h1) e
  refine call_enumerate_list g1.isList fun h2 en li hz kp => ?_
  refine wpAny_pyIter_enum en ?_
  have x2 : Step c.B none ρ₁ s₁ ρ₁ { s₁ with heap := h2 } := Step.ext kp rfl rfl
  have st2 := St.ext (s' := { s₁ with heap := h2 }) st1 kp rfl rfl
  have l2 := l1.mono st1 x2
  have n0 : s₁.heap.get? s₁.heap.objs.size = none := Heap.get?_none_of_le (Nat.le_refl _)
  have n1 : s₁.heap.get? (s₁.heap.objs.size + 1) = none := Heap.get?_none_of_le (Nat.le_succ _)
  have tm : ∀ (i : Nat) (h : Heap), ((∃ old, IsEnum h (s₁.heap.objs.size + 1) s₁.heap.objs.size i old) ∧ h.IsListIter s₁.heap.objs.size q.1 i) → ∀ a ∈ [s₁.heap.objs.size + 1, s₁.heap.objs.size], Tame c.B h a := fun i h ⟨⟨old, hi⟩, o, z1, z2, z3⟩ a ha => by
    rcases List.mem_cons.mp ha with rfl | ha
    · exact ⟨_, _, hi, rfl, by simp, by simp, by simp, by simp⟩
    · cases List.mem_singleton.mp ha
      exact ⟨o, _, z1, z3, by simp, by rw [z2]; decide, by rw [z2]; simp, by rw [z2]; simp⟩
  refine for_core (nm := n) (q := q) (as := [s₁.heap.objs.size + 1, s₁.heap.objs.size]) (It := fun i h => (∃ old, IsEnum h (s₁.heap.objs.size + 1) s₁.heap.objs.size i old) ∧ h.IsListIter s₁.heap.objs.size q.1 i) (N := xs.length) (item := fun i => .tup [.int i, xs.getD i .none]) (I := I) (x1.trans (x2.atL l1.off)) (k1.next (x2.atL l1.off) st2 l2) (fun _ => e)
    (fun a ha => by rcases List.mem_cons.mp ha with rfl | ha; exact dead_of x1.live n1; cases List.mem_singleton.mp ha; exact dead_of x1.live n0)
    (fun a ha => by rcases List.mem_cons.mp ha with rfl | ha; exact dead_of (fun a o e => ⟨o, st1.base a o e⟩) n1; cases List.mem_singleton.mp ha; exact dead_of (fun a o e => ⟨o, st1.base a o e⟩) n0)
    ⟨⟨_, en⟩, li⟩ h1 tm (by rintro i h h' ⟨⟨old, hi⟩, o, z1, z2, z3⟩ hk; exact ⟨⟨old, hk _ (.head _) _ hi⟩, o, hk _ (.tail _ (.head _)) o z1, z2, z3⟩) (fun i ρ s m H E hlt hII st hq hi => ?_) (fun ρ s m H E hII st hq hi => ?_) (fun i m H hlt hII => ?_) done
  · have e' := hq (List.getElem?_eq_some_iff.mp e).1
    obtain ⟨_, ws, k3, g3, hr3⟩ := st.ref (hI _ _ _ hII) e'
    obtain ⟨pv, e1, e2⟩ := hr3.exists_get (List.getElem?_eq_getElem hlt)
    obtain ⟨⟨old, hie⟩, hil⟩ := hi
    refine wpAny_pyNext_enum_item hie hil g3.isList (by simpa using e1) (Nat.succ_ne_self _) fun h' ho hl' ht hz' hk' => ?_
    refine wpAny_letOwnedTupleGo_enum ho fun h'' hen hs => ?_
    have ta := tm i _ ⟨⟨old, hie⟩, hil⟩
    have sz : s.heap.objs.size ≠ s₁.heap.objs.size + 1 := Nat.ne_of_gt (Heap.lt_size hie)
    have mv : Moved [s₁.heap.objs.size + 1, s₁.heap.objs.size] s { s with heap := h'', toks := s.toks + 1 } := ⟨fun b ob hb e => by
      simp only [List.mem_cons, List.not_mem_nil, or_false, not_or] at hb
      exact (hs.2 b hb.1).trans (hk' b ob hb.1 hb.2 e), rfl, rfl⟩
    refine ⟨_, rfl, mv, ⟨⟨pv, ?_⟩, ?_⟩, ?_⟩
    · have e1 : ((i + 1 : Nat) : Int) = (i : Int) + 1 := by lia
      show IsEnum h'' _ _ ((i + 1 : Nat) : Int) _
      rw [e1]; exact hen
    · obtain ⟨o, z1, z2, z3⟩ := hl'
      exact ⟨o, (hs.2 _ (Nat.ne_of_lt (Nat.lt_succ_self _))).trans z1, z2, z3⟩
    · refine .tup (vs := [.int i s.toks, pv]) ⟨_, (hs.2 _ sz).trans ht, rfl, _, rfl⟩ rfl fun j x v e3 e4 => ?_
      match j with
      | 0 => simp at e3 e4; subst e3 e4; exact .int _ _
      | 1 =>
        simp at e3 e4; subst e3 e4
        rw [List.getElem?_eq_getElem hlt]
        exact mv.vr ta e2
      | j + 2 => simp at e3
  · have e' := hq (List.getElem?_eq_some_iff.mp e).1
    obtain ⟨_, ws, k3, g3, hr3⟩ := st.ref (hI _ _ _ hII) e'
    have hl := hr3.length
    obtain ⟨⟨old, hie⟩, hil⟩ := hi
    refine wpAny_pyNext_enum_end (k.ak.hd.trans hn) hie hil g3.isList (by simp; lia) fun h' hx => ⟨rfl, ?_⟩
    exact ⟨fun b ob hb e => hx b ob (by simp at hb; exact hb.2) e, rfl, rfl⟩
  · have := turn i (xs.getD i .none) m H (by rw [List.getD_eq_getElem?_getD, List.getElem?_eq_getElem hlt]; rfl) hII
    exact this
end fors
/-! ### PL -/
section wh
variable {c : Cx} {fa : FrA} {m : LM} {H : HA} {Q : Fl → LM → HA → Prop} {X : Addr → LM → HA → Prop}

theorem noted_exc {A : Around} {env : Env} {L : Addr} {ρ ρ₀ : Rho} {s s₀ s' : Shared} {e : Value} (k : Ok c fa m H A env L ρ s) (hr : fa.real = true) (x0 : Step c.B (some L) ρ₀ s₀ ρ s)
    (r : RzE c.B env.frame L ρ s X e s') : notedBy c.B.M A env (fun e s' => cameBackBy c.B.M A env (RzE c.B env.frame L ρ₀ s₀ X) e s') e s' := by
  obtain ⟨ρ1, m1, H1, a, rfl, x1, st1, l1, ex, q⟩ := r
  obtain ⟨l, hA, hl⟩ := (k.ak.mono x1).fr
  obtain ⟨_, l', hA'⟩ := k.ev.real hr
  rw [hA'] at hA; cases hA
  obtain ⟨kd, F, oF, hF, hF0, _⟩ := hl env (.head _)
  refine note_exc st1 hA' hl hF (ex.mono fun x hx => hx.imp id ?_) fun s2 x2 st2 e2 => ?_
  · rintro ⟨f, z, rfl⟩; rw [hF] at z; cases z; rfl
  obtain ⟨o, vs, T, oT, ts, f, x, h1, h2, h3, h4, h5, h6, h7⟩ := id e2
  refine wpAny_bind (wpAny_field h1 h3 h5 ?_)
  rw [if_neg (show ¬ ((Value.ref T == Value.none) = true) from by simp)]
  refine flight_exc (fr := env.frame) st2 e2 fun s3 x3 st3 e3 => ?_
  exact ⟨ρ1, m1, H1, a, rfl, ((x0.trans x1).trans (x2.atL l1.off)).trans (x3.atL (l1.mono st1 x2).off), st3, (l1.mono st1 x2).mono st2 x3, e3.ok.mono fun x hx => .inr ⟨F, hF, by rw [hx, hF]; rfl⟩, q⟩

noncomputable abbrev WhlB (I : Nat → LM → HA → Prop) (n : Nat) (Q : Fl → LM → HA → Prop) : Fl → LM → HA → Prop := fun f m' H' => match f with
  | .next | .cont => ∃ k, k < n ∧ I k m' H'
  | .brk => Q .next m' H'
  | .ret v => Q (.ret v) m' H'
noncomputable abbrev WhlK (c : Cx) (fa : FrA) (body : List Stmt) (m : LM) (I : Nat → LM → HA → Prop) (n : Nat) (Q : Fl → LM → HA → Prop) (X : Addr → LM → HA → Prop) : Bool → HA → Prop := fun z H1 => if z then ExW c fa body m H1 (WhlB I n Q) X else Q .next m H1
theorem xs_while {t : Expr} {body : List Stmt} {pos : Pos} (I : Nat → LM → HA → Prop) (n : Nat) (hr : fa.real = true) (h0 : I n m H)
    (turn : ∀ n m H, I n m H → TsW c fa t m H (WhlK c fa body m I n Q X) X) : ExS c fa (.While t body [] pos) m H Q X := fun A env L ρ s k => by
  refine wpAny_While (codeAny_whileLoop (fun n s' => ∃ ρ' m' H', Step c.B (some L) ρ s ρ' s' ∧ Ok c fa m' H' A env L ρ' s' ∧ I n m' H') ?_ n ⟨ρ, m, H, Step.refl, k, h0⟩)
  rintro n s1 ⟨ρ1, m1, H1, x1, k1, hI⟩
  refine wpAny_mono (turn n m1 H1 hI A env L ρ1 s1 k1) ?_ fun e s2 r => noted_exc k1 hr x1 r
  rintro z s2 ⟨ρ2, H2, x2, st2, l2, h2⟩
  have k2 := k1.next x2 st2 l2
  cases z
  · exact wpAny_execs_nil ⟨ρ2, m1, H2, .next, x1.trans x2, st2, l2, trivial, h2⟩
  · refine wpAny_mono (h2 A env L ρ2 s2 k2) ?_ fun e s3 r => noted_exc k2 hr (x1.trans x2) r
    rintro f s3 ⟨ρ3, m3, H3, f', x3, st3, l3, fo, q⟩
    have k3 := k2.next x3 st3 l3
    have x := (x1.trans x2).trans x3
    cases f' <;> cases f <;> try exact fo.elim
    · obtain ⟨j, hj, hI'⟩ := q; exact ⟨j, hj, ρ3, m3, H3, x, k3, hI'⟩
    · exact ⟨ρ3, m3, H3, .next, x, st3, l3, trivial, q⟩
    · obtain ⟨j, hj, hI'⟩ := q; exact ⟨j, hj, ρ3, m3, H3, x, k3, hI'⟩
    · exact ⟨ρ3, m3, H3, .ret _, x, st3, l3, fo, q⟩
end wh
/-! ### PM -/
section
variable {c : Cx} {fa : FrA} {m : LM} {H : HA} {Q : V → HA → Prop} {X : Addr → LM → HA → Prop} {XO : Addr → HA → Prop}

/-- a new list -/
theorem new_list {ρ : Rho} {s s' : Shared} {q : Addr} {vs : List Value} {xs : List V} (st : St c.B ρ H s.heap) (hk : ∀ b o, s.heap.get? b = some o → s'.heap.get? b = some o) (g : s'.gens = s.gens) (os : s'.os = s.os) (hq : s.heap.objs.size ≤ q)
    (h1 : IsL s'.heap q vs.toArray 0) (hv : VRs c.B s.heap ρ xs vs) (h : Q (.ref H.length) (H ++ [.list xs])) : OpQ c.B ρ s Q (.ref q) s' := by
  have x2 : Step c.B none ρ s (ρ ++ [(q, q)]) s' := Step.new hk g os ⟨hq, hq⟩
  have st2 := St.new (ob := .list xs) (q := (q, q)) st hk g os ⟨hq, hq⟩ ⟨rfl, vs, 0, h1, hv.mono st .none x2⟩
  refine ⟨_, _, .ref H.length, x2, st2, .ref (q := (q, q)) ?_, h⟩
  rw [← st.len, List.getElem?_concat_length]

theorem op_cat {n k : Nat} {xs ys : List V} (hn : H[n]? = some (.list xs)) (hk : H[k]? = some (.list ys)) (hz : xs.length + ys.length ≤ 100000) (hq : Q (.ref H.length) (H ++ [.list (xs ++ ys)])) : Op2 c (binaryOp .Add) (.ref n) (.ref k) H Q XO := fun A ρ s a b ak st va vb => by
  obtain ⟨q, rfl, e⟩ := va.ref_inv
  obtain ⟨r, rfl, e'⟩ := vb.ref_inv
  obtain ⟨hqq, vs, kv, h1, hr⟩ := st.ref hn e
  obtain ⟨hqq', ws, kw, h2, hr'⟩ := st.ref hk e'
  have l1 := hr.length
  have l2 := hr'.length
  refine PySem.P.add_list h1 h2 ?_ (by simp only [List.size_toArray]; rw [sizeLine_eq]; lia)
  refine new_list (vs := vs ++ ws) st (fun b o e => Heap.get?_push_of_some _ e) rfl rfl (Nat.le_refl _) ?_ (hr.append hr') hq
  have := Heap.get?_push_size s.heap (o := { cls := .type "list", data := .seq (vs.toArray ++ ws.toArray) }) rfl
  rw [List.append_toArray] at this ⊢
  exact this

theorem fn_extend {n k : Nat} {xs ys : List V} (hn : H[n]? = some (.list xs)) (hk : H[k]? = some (.list ys)) (hz : xs.length + ys.length ≤ 1000) (hq : Q .none (H.set n (.list (xs ++ ys)))) : OpN c (fun vs => call (.builtin "list.extend") vs) [.ref n, .ref k] H Q XO := fun A ρ s vs ak st va => by
  replace va := va.two; obtain ⟨pl, pv, rfl, va, vb⟩ := va
  obtain ⟨q, rfl, e⟩ := va.ref_inv
  obtain ⟨r, rfl, e'⟩ := vb.ref_inv
  obtain ⟨hqq, ws, kv, h1, hr⟩ := st.ref hn e
  obtain ⟨hqq', us, kw, h2, hr'⟩ := st.ref hk e'
  have l1 := hr.length
  have l2 := hr'.length
  refine call_meets PySem.F.slot_list_extend ⟨_, h1, rfl⟩ PySem.F.entry_list_extend (PySem.F.args_list_extend_2 _ _) (PySem.AutoSeq1.list_extend_list_list_0 q.1 ws.toArray kv r.1 us.toArray kw ?_ (by simp only [List.size_toArray]; rw [sizeLine_eq]; lia) (by simp only [List.size_toArray]; rw [sizeLine_eq]; lia)) ⟨h1, h2, ?_⟩
  · have : Builtin.List.listTooLong (ws.toArray.size + us.toArray.size) = false := by
      unfold Builtin.List.listTooLong
      simp only [List.size_toArray, decide_eq_false_iff_not, Nat.not_lt]
      rw [sizeLine_eq]; lia
    rw [this]; simp
  have kp : ∀ b o, s.heap.get? b = some o → b ≠ q.1 → b ≠ q.2 → (s.heap.update q.1 (Obj.mapSeq fun x => x ++ us.toArray)).get? b = some o := fun b o e h1 _ => (Heap.get?_update_other _ _ (Ne.symm h1)).trans e
  have x1 : Step c.B none ρ s ρ { s with heap := s.heap.update q.1 (Obj.mapSeq fun x => x ++ us.toArray) } := Step.upd st e kp (lv_upd hqq h1 rfl) rfl rfl
  refine ⟨ρ, _, .none, x1, St.upd (s' := { s with heap := s.heap.update q.1 (Obj.mapSeq fun x => x ++ us.toArray) }) (ob := .list (xs ++ ys)) st e kp rfl rfl ⟨hqq, ws ++ us, _, (by have := h1.update (· ++ us.toArray); rwa [List.append_toArray] at this), ?_⟩, .none, hq⟩
  exact (hr.mono st .none x1).append (hr'.mono st .none x1)

theorem pick_from (vs : List Value) {k : Int} (h : 0 ≤ k) : slicePick vs.toArray (some k) none none = (vs.drop k.toNat).toArray := by
  rw [kmk_pick_nat (a := min k.toNat vs.length) (b := vs.length)]
  · congr 1
    rw [kmk_drop_min]
    refine List.take_of_length_le ?_
    simp
    lia
  · unfold sliceBounds
    simp [show ¬ k < 0 by lia]
    lia
theorem pick_upto (vs : List Value) {k : Int} (h : 0 ≤ k) : slicePick vs.toArray none (some k) none = (vs.take k.toNat).toArray := by
  rw [kmk_pick_nat (a := 0) (b := min k.toNat vs.length)]
  · congr 1
    simp [kmk_take_min]
  · unfold sliceBounds
    simp [show ¬ k < 0 by lia]
    lia

noncomputable abbrev SlcK (c : Cx) (fa : FrA) (i : Expr) (m : LM) (n : Nat) (K : V → HA → Prop) (X : Addr → LM → HA → Prop) : V → HA → Prop := fun v H1 => v = .ref n ∧ EvW c fa i m H1 K X
/-! dicts -/
theorem new_dict {s : Shared} {o : Ob} {ρ : Rho} {p : Obj} (hp : p = { cls := .type "dict", data := .dict #[] }) (ho : o = .dictI [] ∨ o = .dictS []) (st : St c.B ρ H s.heap) (h : Q (.ref H.length) (H ++ [o])) : OpQ c.B ρ s Q (.ref s.heap.objs.size) { s with heap := s.heap.push p } := by
  subst hp
  have kp : ∀ b o, s.heap.get? b = some o → (s.heap.push { cls := .type "dict", data := .dict #[] }).get? b = some o := fun b o e => Heap.get?_push_of_some _ e
  have x2 : Step c.B none ρ s (ρ ++ [(s.heap.objs.size, s.heap.objs.size)]) { s with heap := s.heap.push { cls := .type "dict", data := .dict #[] } } := Step.new kp rfl rfl ⟨Nat.le_refl _, Nat.le_refl _⟩
  have hO : OR c.B (s.heap.push { cls := .type "dict", data := .dict #[] }) (ρ ++ [(s.heap.objs.size, s.heap.objs.size)]) o (s.heap.objs.size, s.heap.objs.size) := by
    rcases ho with rfl | rfl
    · exact ⟨rfl, [], Heap.DictOf.new s.heap, trivial⟩
    · exact ⟨rfl, [], Heap.DictOf.new s.heap, trivial⟩
  have st2 := St.new (ob := o) (q := (s.heap.objs.size, s.heap.objs.size)) (s' := { s with heap := s.heap.push { cls := .type "dict", data := .dict #[] } }) st kp rfl rfl ⟨Nat.le_refl _, Nat.le_refl _⟩ hO
  refine ⟨_, _, .ref H.length, x2, st2, .ref (q := (s.heap.objs.size, s.heap.objs.size)) ?_, h⟩
  rw [← st.len, List.getElem?_concat_length]
theorem ev_dict0 {pos : Pos} (o : Ob) (ho : o = .dictI [] ∨ o = .dictS []) (h : Q (.ref H.length) (H ++ [o])) : EvW c fa (.Dict [] [] pos) m H Q X := fun A env L ρ s k => by
  refine wpAny_Dict_empty ?_
  obtain ⟨ρ', H', v, x3, st3, r3, q3⟩ := new_dict (c := c) rfl ho k.st h
  exact ⟨ρ', H', v, x3.atL k.lc.off, st3, k.lc.mono k.st x3, r3, q3⟩

theorem ev_dict2 {k1 k2 : Str} {e1 e2 : Expr} {a1 a2 : Nat} {p1 p2 pos : Pos} (hk : k1 ≠ k2)
    (h : EvW c fa e1 m (H ++ [.dictS []]) (fun v1 H1 => EvW c fa e2 m H1 (fun v2 H2 => H2[H.length]? = some (.dictS []) ∧ Q (.ref H.length) (H2.set H.length (.dictS [(k1, v1), (k2, v2)]))) X) X) :
    EvW c fa (.Dict [some (.Constant (.str k1) a1 p1), some (.Constant (.str k2) a2 p2)] [e1, e2] pos) m H Q X := fun A env L ρ s k => by
  have hdl : ∀ {ρ : Rho} {s : Shared} {n : Nat}, Loc c.B L m ρ s.heap → Loc c.B L m ρ { s with toks := n }.heap := fun l => l
  refine wpAny_Dict_pairs (knd := PySem.strKind c.B.prog c.B.w) (pairs := [(eval (.Constant (.str k1) a1 p1) env, do let x ← eval e1 env; standAt pos; pure x), (eval (.Constant (.str k2) a2 p2) env, do let x ← eval e2 env; standAt pos; pure x)]) rfl (by simp) (by simp) ?_
  have kp : ∀ b o, s.heap.get? b = some o → (s.heap.push { cls := .type "dict", data := .dict #[] }).get? b = some o := fun b o e => Heap.get?_push_of_some _ e
  have x0 : Step c.B none ρ s (ρ ++ [(s.heap.objs.size, s.heap.objs.size)]) { s with heap := s.heap.push { cls := .type "dict", data := .dict #[] } } := Step.new kp rfl rfl ⟨Nat.le_refl _, Nat.le_refl _⟩
  have st0 := St.new (ob := .dictS []) (q := (s.heap.objs.size, s.heap.objs.size)) (s' := { s with heap := s.heap.push { cls := .type "dict", data := .dict #[] } }) k.st kp rfl rfl ⟨Nat.le_refl _, Nat.le_refl _⟩ ⟨rfl, [], Heap.DictOf.new s.heap, trivial⟩
  have l0 := k.lc.mono k.st x0
  have x0L := x0.atL k.lc.off
  have k0 := k.next x0L st0 l0
  have e0 : (ρ ++ [(s.heap.objs.size, s.heap.objs.size)])[H.length]? = some (s.heap.objs.size, s.heap.objs.size) := by rw [← k.st.len, List.getElem?_concat_length]
  have tk : ∀ {fa : FrA} {m : LM} {H : HA} {ρ : Rho} {s : Shared} {n : Nat}, Ok c fa m H A env L ρ s → Ok c fa m H A env L ρ { s with toks := n } := fun k => ⟨k.ak, k.ev, k.st, k.lc⟩
  refine evalPairs_cons (wpAny_Constant_str (wpAny_bind (wpAny_mono (h A env L _ _ (tk k0)) ?_ fun _ _ r => r.after (x0L.trans Step.toks))))
  rintro pv1 s1 ⟨ρ1, H1, v1, x1, st1, l1, r1, h1⟩
  refine wpAny_bind (wpAny_standAt (wpAny_pure ?_))
  have k1' := (tk k0).next x1 st1 l1
  refine evalPairs_cons (wpAny_Constant_str (wpAny_bind (wpAny_mono (h1 A env L _ _ (tk k1')) ?_ fun _ _ r => r.after (((x0L.trans Step.toks).trans x1).trans Step.toks))))
  rintro pv2 s2 ⟨ρ2, H2, v2, x2, st2, l2, r2, hd2, q2⟩
  refine wpAny_bind (wpAny_standAt (wpAny_pure (evalPairs_nil ?_)))
  have e2 := x2.grow (x1.grow e0)
  obtain ⟨hqq, kvs', hd, hr⟩ := st2.ref hd2 e2
  have : kvs' = [] := by cases kvs' with
    | nil => rfl
    | cons a b => exact hr.elim
  subst this
  refine ⟨[(k1, pv1), (k2, pv2)], ⟨strKind_is _ _ _ _, rfl, strKind_is _ _ _ _, rfl, trivial⟩, hd, fun h' hd' hs => ?_⟩
  have hm : merged [] [(k1, pv1), (k2, pv2)] = [(k1, pv1), (k2, pv2)] := by
    simp [merged, stored, hk]
  rw [hm] at hd'
  have kp3 : ∀ b o, s2.heap.get? b = some o → b ≠ s.heap.objs.size → b ≠ s.heap.objs.size → h'.get? b = some o := fun b o e h1 _ => (hs.2 b h1).trans e
  have x3 : Step c.B none ρ2 s2 ρ2 { s2 with heap := h', toks := s2.toks + 2 } := Step.upd st2 e2 kp3 (lv_one hqq hd'.choose_spec.choose_spec.choose_spec.1) rfl rfl
  have r1' := r1.mono st1 l1.lx (Step.toks.trans x2)
  refine ⟨ρ2, _, .ref H.length, ((((x0L.trans Step.toks).trans x1).trans Step.toks).trans x2).trans (x3.atL l2.off), St.upd (s' := { s2 with heap := h', toks := s2.toks + 2 }) (ob := .dictS [(k1, v1), (k2, v2)]) st2 e2 kp3 rfl rfl ⟨rfl, _, hd', rfl, r1'.mono st2 .none x3, rfl, r2.mono st2 .none x3, trivial⟩, l2.mono st2 x3, .ref (q := (s.heap.objs.size, s.heap.objs.size)) (x3.grow e2), q2⟩
end
/-! ### PN -/
/-! ### iterators as things of their own, for comprehensions -/
structure Itr (c : Cx) (target : Expr) (G : HA → Prop) (nm b : Nat) (q : Addr × Addr) (as : List Addr) (it : Addr) (It : Nat → Heap → Prop) (N : Nat) (item : Nat → V) : Prop where
  tame : ∀ i h, It i h → ∀ a ∈ as, Tame c.B h a
  frame : ∀ i h h', It i h → (∀ a ∈ as, ∀ o, h.get? a = some o → h'.get? a = some o) → (∀ a vs, IsTup h a vs → IsTup h' a vs) → (∀ v pv, VR c.B h [] v pv → VR c.B h' [] v pv) → It i h'
  next : ∀ A i ρ s H (E : Value → Shared → Prop), A.handled = none → i < N → G H → St c.B ρ H s.heap → (nm < b → ρ[nm]? = some q) → It i s.heap →
      wpAny c.B.M A (pyNext (.ref it)) (fun r s' => match r with
        | none => False
        | some v => wpAny c.B.M A (letOwnedTupleGo target (.ref it) v) (fun _ s'' => ∃ s3 : Shared, s'' = s3 ∧ Moved as s s3 ∧ It (i + 1) s3.heap ∧ VR c.B s3.heap ρ (item i) v) E s') E s
  stop : ∀ A ρ s H (E : Value → Shared → Prop), A.handled = none → G H → St c.B ρ H s.heap → (nm < b → ρ[nm]? = some q) → It N s.heap → wpAny c.B.M A (pyNext (.ref it)) (fun r s' => r = none ∧ Moved as s s') E s
  self : ∀ A i s (Q : Value → Shared → Prop) (E : Value → Shared → Prop), It i s.heap → Q (.ref it) s → wpAny c.B.M A (pyIter (.ref it)) Q E s

/-- an iterator is made -/
inductive IterP (c : Cx) (target : Expr) (G : HA → Prop) (N : Nat) (item : Nat → V) (H : HA) (ρ : Rho) (s : Shared) (itv : Value) (s₂ : Shared) : Prop
  | mk (it : Addr) (as : List Addr) (It : Nat → Heap → Prop) (nm : Nat) (q : Addr × Addr) : itv = .ref it → Itr c target G nm ρ.length q as it It N item → It 0 s₂.heap → Step c.B none ρ s ρ s₂ → St c.B ρ H s₂.heap →
    (∀ a ∈ as, s.heap.get? a = none) → (nm < ρ.length → ρ[nm]? = some q) → IterP c target G N item H ρ s itv s₂
noncomputable def IterW (c : Cx) (target : Expr) (G : HA → Prop) (N : Nat) (item : Nat → V) (v : V) (H : HA) : Prop :=
  ∀ A ρ s pv E, A.handled = none → St c.B ρ H s.heap → VR c.B s.heap ρ v pv → wpAny c.B.M A (pyIter pv) (IterP c target G N item H ρ s) E s

theorem iter_list {c : Cx} {H : HA} {x : Str} {xp : Pos} {n : Nat} {xs : List V} (hn : H[n]? = some (.list xs)) : IterW c (.Name x xp) (fun H => H[n]? = some (.list xs)) xs.length (fun i => xs.getD i .none) (.ref n) H := fun A ρ s pv E hh st r => by
  obtain ⟨q, rfl, e⟩ := r.ref_inv
  obtain ⟨hqq, vs, kk, g1, hr⟩ := st.ref hn e
  refine wpAny_pyIter_list g1.isList ?_
  have kp : ∀ b o, s.heap.get? b = some o → (s.heap.push { cls := .type "list_iterator", data := .fields #[.ref q.1, .int 0 0] }).get? b = some o := fun b o e => Heap.get?_push_of_some _ e
  refine ⟨s.heap.objs.size, [s.heap.objs.size], fun i h => h.IsListIter s.heap.objs.size q.1 i, n, q, rfl, ⟨fun i h hi a ha => ?_, fun i h h' hi hk _ _ => ?_, fun A i ρ' s' H E hh hlt hII st hq hi => ?_, fun A ρ' s' H E hh hII st hq hi => ?_, fun A i s' Q E hi h => wpAny_pyIter_listiter hi h⟩, ?_, Step.ext kp rfl rfl, St.ext (s' := { s with heap := s.heap.push { cls := .type "list_iterator", data := .fields #[.ref q.1, .int 0 0] } }) st kp rfl rfl, fun a ha => ?_, fun _ => e⟩
  · cases List.mem_singleton.mp ha
    obtain ⟨o, z1, z2, z3⟩ := hi
    exact ⟨o, _, z1, z3, by simp, by rw [z2]; decide, by rw [z2]; simp, by rw [z2]; simp⟩
  · obtain ⟨o, z1, z2, z3⟩ := hi
    exact ⟨o, hk _ (.head _) o z1, z2, z3⟩
  · have e' := hq (List.getElem?_eq_some_iff.mp e).1
    obtain ⟨_, ws, k3, g3, hr3⟩ := st.ref hII e'
    obtain ⟨pv, e1, e2⟩ := hr3.exists_get (List.getElem?_eq_getElem hlt)
    refine wpAny_pyNext_list_item hi g3.isList (by simpa using e1) fun h' hi' hs => ?_
    have mv : Moved [s.heap.objs.size] s' { s' with heap := h' } := moved_one hs rfl rfl
    have ta : ∀ a ∈ [s.heap.objs.size], Tame c.B s'.heap a := fun a ha => by
      cases List.mem_singleton.mp ha
      obtain ⟨o, z1, z2, z3⟩ := hi
      exact ⟨o, _, z1, z3, by simp, by rw [z2]; decide, by rw [z2]; simp, by rw [z2]; simp⟩
    refine letGo_name ⟨_, rfl, mv, hi', ?_⟩
    rw [List.getD_eq_getElem?_getD, List.getElem?_eq_getElem hlt]
    exact mv.vr ta e2
  · have e' := hq (List.getElem?_eq_some_iff.mp e).1
    obtain ⟨_, ws, k3, g3, hr3⟩ := st.ref hII e'
    have hl := hr3.length
    refine wpAny_pyNext_list_end hh hi g3.isList (by simp; lia) fun h' hx => ⟨rfl, ?_⟩
    exact ⟨fun b ob hb e => hx b ob (by simpa using hb) e, rfl, rfl⟩
  · exact ⟨_, Heap.get?_push_size _ rfl, rfl, rfl⟩
  · cases List.mem_singleton.mp ha
    exact Heap.get?_none_of_le (Nat.le_refl _)

theorem iter_tup {c : Cx} {H : HA} {x : Str} {xp : Pos} {xs : List V} (hp : ∀ v ∈ xs, ∀ h ρ pv, VR c.B h ρ v pv → VR c.B h [] v pv) (hp' : ∀ v h ρ pv, VR c.B h [] v pv → VR c.B h ρ v pv) :
    IterW c (.Name x xp) (fun _ => True) xs.length (fun i => xs.getD i .none) (.tup xs) H := fun A ρ s pv E hh st r => by
  obtain ⟨vs, t, rfl, ht, hl, hg⟩ := r.tup_inv
  refine wpAny_pyIter_tuple (let ⟨o, z1, z2, z3, z4⟩ := ht; ⟨o, z1, z2, z3, z4⟩) ?_
  have kp : ∀ b o, s.heap.get? b = some o → (s.heap.push { cls := .type "tuple_iterator", data := .fields #[.ref t, .int 0 0] }).get? b = some o := fun b o e => Heap.get?_push_of_some _ e
  have x2 : Step c.B none ρ s ρ { s with heap := s.heap.push { cls := .type "tuple_iterator", data := .fields #[.ref t, .int 0 0] } } := Step.ext kp rfl rfl
  refine ⟨s.heap.objs.size, [s.heap.objs.size], fun i h => h.IsTupleIter s.heap.objs.size t i ∧ IsTup h t vs.toArray ∧ ∀ (j : Nat) v pv, xs[j]? = some v → vs[j]? = some pv → VR c.B h [] v pv, ρ.length, (0, 0), rfl, ⟨fun i h hi a ha => ?_, fun i h h' hi hk ht hv => ?_, fun A i ρ' s' H E hh hlt hII st hq hi => ?_, fun A ρ' s' H E hh hII st hq hi => ?_, fun A i s' Q E hi h => wpAny_pyIter_tupleiter hi.1 h⟩, ?_, x2, St.ext (s' := { s with heap := s.heap.push { cls := .type "tuple_iterator", data := .fields #[.ref t, .int 0 0] } }) st kp rfl rfl, fun a ha => ?_, fun z => absurd z (Nat.lt_irrefl _)⟩
  · cases List.mem_singleton.mp ha
    obtain ⟨⟨o, z1, z2, z3⟩, _⟩ := hi
    exact ⟨o, _, z1, z3, by simp, by rw [z2]; decide, by rw [z2]; simp, by rw [z2]; simp⟩
  · obtain ⟨⟨o, z1, z2, z3⟩, z4, z5⟩ := hi
    exact ⟨⟨o, hk _ (.head _) o z1, z2, z3⟩, ht _ _ z4, fun j v pv e1 e2 => hv _ _ (z5 j v pv e1 e2)⟩
  · obtain ⟨hi1, hi2, hi3⟩ := hi
    have hlt' : i < vs.length := hl ▸ hlt
    refine wpAny_pyNext_tuple_item hi1 (let ⟨o, z1, z2, z3, z4⟩ := hi2; ⟨o, z1, z2, z3, z4⟩) (x := vs[i]) (by simp [hlt']) fun h' hi' hs => ?_
    have mv : Moved [s.heap.objs.size] s' { s' with heap := h' } := moved_one hs rfl rfl
    have ta : ∀ a ∈ [s.heap.objs.size], Tame c.B s'.heap a := fun a ha => by
      cases List.mem_singleton.mp ha
      obtain ⟨o, z1, z2, z3⟩ := hi1
      exact ⟨o, _, z1, z3, by simp, by rw [z2]; decide, by rw [z2]; simp, by rw [z2]; simp⟩
    have tk : IsTup h' t vs.toArray := by
      have := Moved.vr (ρ := []) ta mv (VR.tup (xs := xs) hi2 hl hi3)
      cases this with
      | tup a b d =>
        obtain ⟨o, z1, z2, z3, z4⟩ := hi2
        exact ⟨o, mv.keep _ _ (fun q => by
          cases List.mem_singleton.mp q
          obtain ⟨o', z1', z2', z3'⟩ := hi1
          rw [z1] at z1'; cases z1'; rw [z4] at z3'; cases z3') z1, z2, z3, z4⟩
    refine letGo_name ⟨_, rfl, mv, ⟨hi', tk, fun j v pv e1 e2 => mv.vr ta (hi3 j v pv e1 e2)⟩, ?_⟩
    rw [List.getD_eq_getElem?_getD, List.getElem?_eq_getElem hlt]
    exact mv.vr ta (hp' _ _ _ _ (hi3 i _ _ (List.getElem?_eq_getElem hlt) (List.getElem?_eq_getElem hlt')))
  · obtain ⟨hi1, hi2, hi3⟩ := hi
    refine wpAny_pyNext_tuple_end hh hi1 (let ⟨o, z1, z2, z3, z4⟩ := hi2; ⟨o, z1, z2, z3, z4⟩) (by simp; lia) fun h' hx => ⟨rfl, ?_⟩
    exact ⟨fun b ob hb e => hx b ob (by simpa using hb) e, rfl, rfl⟩
  · refine ⟨⟨_, Heap.get?_push_size _ rfl, rfl, rfl⟩, ?_, fun j v pv e1 e2 => ?_⟩
    · obtain ⟨o, z1, z2, z3, z4⟩ := ht
      exact ⟨o, kp _ _ z1, z2, z3, z4⟩
    · exact hp v (List.mem_of_getElem? e1) _ ρ _ ((hg j v pv e1 e2).mono st .none x2)
  · cases List.mem_singleton.mp ha
    exact Heap.get?_none_of_le (Nat.le_refl _)

/-- enumerate(list), evaluated, then its iterator: as the comprehension's first expression -/
theorem iter_enum {c : Cx} {H : HA} {n : Nat} {xs : List V} {es : List Expr} {kt : Nat} {tp : Pos} (hn : H[n]? = some (.list xs)) {A : Around} {ρ : Rho} {s : Shared} {E : Value → Shared → Prop} {pv : Value} (hh : A.handled = none) (st : St c.B ρ H s.heap) (r : VR c.B s.heap ρ (.ref n) pv) :
    wpAny c.B.M A (call (.type "enumerate") [pv]) (fun ev s₁ => wpAny c.B.M A (pyIter ev) (fun itv s₂ => ∃ it as It nm q, itv = .ref it ∧ Itr c (.Tuple es kt tp) (fun H => H[n]? = some (.list xs)) nm ρ.length q as it It xs.length (fun i => .tup [.int i, xs.getD i .none]) ∧ It 0 s₂.heap ∧ Step c.B none ρ s ρ s₂ ∧ St c.B ρ H s₂.heap ∧
    (∀ a ∈ as, s.heap.get? a = none) ∧ (nm < ρ.length → ρ[nm]? = some q)) E s₁) E s := by
  obtain ⟨q, rfl, e⟩ := r.ref_inv
  obtain ⟨hqq, vs, kk, g1, hr⟩ := st.ref hn e
  refine call_enumerate_list g1.isList fun h2 en li hz kp => ?_
  refine wpAny_pyIter_enum en ?_
  have x2 : Step c.B none ρ s ρ { s with heap := h2 } := Step.ext kp rfl rfl
  have st2 := St.ext (s' := { s with heap := h2 }) st kp rfl rfl
  have n0 : s.heap.get? s.heap.objs.size = none := Heap.get?_none_of_le (Nat.le_refl _)
  have n1 : s.heap.get? (s.heap.objs.size + 1) = none := Heap.get?_none_of_le (Nat.le_succ _)
  have tm : ∀ (i : Nat) (h : Heap), ((∃ old, IsEnum h (s.heap.objs.size + 1) s.heap.objs.size i old) ∧ h.IsListIter s.heap.objs.size q.1 i) → ∀ a ∈ [s.heap.objs.size + 1, s.heap.objs.size], Tame c.B h a := fun i h ⟨⟨old, hi⟩, o, z1, z2, z3⟩ a ha => by
    rcases List.mem_cons.mp ha with rfl | ha
    · exact ⟨_, _, hi, rfl, by simp, by simp, by simp, by simp⟩
    · cases List.mem_singleton.mp ha
      exact ⟨o, _, z1, z3, by simp, by rw [z2]; decide, by rw [z2]; simp, by rw [z2]; simp⟩
  refine ⟨_, [s.heap.objs.size + 1, s.heap.objs.size], fun i h => (∃ old, IsEnum h (s.heap.objs.size + 1) s.heap.objs.size i old) ∧ h.IsListIter s.heap.objs.size q.1 i, n, q, rfl, ⟨tm, (by rintro i h h' ⟨⟨old, hi⟩, o, z1, z2, z3⟩ hk _ _; exact ⟨⟨old, hk _ (.head _) _ hi⟩, o, hk _ (.tail _ (.head _)) o z1, z2, z3⟩), fun A i ρ' s' H E hh hlt hII st hq hi => ?_, fun A ρ' s' H E hh hII st hq hi => ?_, fun A i s' Q E hi h => ?_⟩, ⟨⟨_, en⟩, li⟩, x2, st2, fun a ha => ?_, fun _ => e⟩
  · have e' := hq (List.getElem?_eq_some_iff.mp e).1
    obtain ⟨_, ws, k3, g3, hr3⟩ := st.ref hII e'
    obtain ⟨pv, e1, e2⟩ := hr3.exists_get (List.getElem?_eq_getElem hlt)
    obtain ⟨⟨old, hie⟩, hil⟩ := hi
    refine wpAny_pyNext_enum_item hie hil g3.isList (by simpa using e1) (Nat.succ_ne_self _) fun h' ho hl' ht hz' hk' => ?_
    refine wpAny_letOwnedTupleGo_enum ho fun h'' hen hs => ?_
    have ta := tm i _ ⟨⟨old, hie⟩, hil⟩
    have sz : s'.heap.objs.size ≠ s.heap.objs.size + 1 := Nat.ne_of_gt (Heap.lt_size hie)
    have mv : Moved [s.heap.objs.size + 1, s.heap.objs.size] s' { s' with heap := h'', toks := s'.toks + 1 } := ⟨fun b ob hb e => by
      simp only [List.mem_cons, List.not_mem_nil, or_false, not_or] at hb
      exact (hs.2 b hb.1).trans (hk' b ob hb.1 hb.2 e), rfl, rfl⟩
    refine ⟨_, rfl, mv, ⟨⟨pv, ?_⟩, ?_⟩, ?_⟩
    · have e1 : ((i + 1 : Nat) : Int) = (i : Int) + 1 := by lia
      show IsEnum h'' _ _ ((i + 1 : Nat) : Int) _
      rw [e1]; exact hen
    · obtain ⟨o, z1, z2, z3⟩ := hl'
      exact ⟨o, (hs.2 _ (Nat.ne_of_lt (Nat.lt_succ_self _))).trans z1, z2, z3⟩
    · refine .tup (vs := [.int i s'.toks, pv]) ⟨_, (hs.2 _ sz).trans ht, rfl, _, rfl⟩ rfl fun j x v e3 e4 => ?_
      match j with
      | 0 => simp at e3 e4; subst e3 e4; exact .int _ _
      | 1 =>
        simp at e3 e4; subst e3 e4
        rw [List.getElem?_eq_getElem hlt]
        exact mv.vr ta e2
      | j + 2 => simp at e3
  · have e' := hq (List.getElem?_eq_some_iff.mp e).1
    obtain ⟨_, ws, k3, g3, hr3⟩ := st.ref hII e'
    have hl := hr3.length
    obtain ⟨⟨old, hie⟩, hil⟩ := hi
    refine wpAny_pyNext_enum_end hh hie hil g3.isList (by simp; lia) fun h' hx => ⟨rfl, ?_⟩
    exact ⟨fun b ob hb e => hx b ob (by simp at hb; exact hb.2) e, rfl, rfl⟩
  · obtain ⟨⟨old, hie⟩, _⟩ := hi
    exact wpAny_pyIter_enum hie h
  · rcases List.mem_cons.mp ha with rfl | ha
    · exact n1
    · cases List.mem_singleton.mp ha; exact n0
/-! ### PO -/
section
variable {B : Bx} {ρ ρ₀ ρ' ρ'' : Rho} {H H' : HA} {s₀ s s' s'' : Shared} {C L L' : Addr} {Lx : Option Addr} {m : LM} {h' : Heap}

theorem Step.fresh (x : Step B Lx ρ s ρ' s') (hC : s.heap.get? C = none) (hLo : ∀ L, Lx = some L → Off ρ L) (y : Step B (some C) ρ' s' ρ'' s'') : Step B Lx ρ s ρ'' s'' := by
  have nl : ∀ a o, s.heap.get? a = some o → some a ≠ some C := fun a o e q => by cases q; rw [hC] at e; cases e
  obtain ⟨t, rfl, ht⟩ := x.pre
  obtain ⟨u, rfl, hu⟩ := y.pre
  refine ⟨⟨t ++ u, by simp, fun q hq => ?_⟩, fun a o e => (x.live a o e).elim fun o' e' => y.live a o' e', fun a o e f n d => ?_, fun a o e q d => ?_, fun a o e f p d c1 c2 => y.keepF a o (x.keepF a o e f p d c1 c2) ?_ p d c1 c2, fun c q z => y.code _ _ (x.code _ _ z), fun a z => y.exc _ (x.exc _ z), y.gens.trans x.gens, y.os.trans x.os⟩
  · rcases List.mem_append.mp hq with hq | hq
    · exact ht q hq
    · exact ⟨dead_of x.live (hu q hq).1, dead_of x.live (hu q hq).2⟩
  · obtain ⟨sl, e1⟩ := x.keepN a o e f n d
    obtain ⟨sl', e2⟩ := y.keepN a _ e1 (f.mono e ht) (nl _ _ e) d
    exact ⟨sl', e2⟩
  · obtain ⟨o1, e1, d1⟩ := x.keepL a o e q d
    obtain ⟨sl', e2⟩ := y.keepN a _ e1 ((hLo a q.symm).mono e ht) (nl _ _ e) d1
    exact ⟨_, e2, d1⟩
  · exact f.mono e ht

theorem Loc.other {c : Cx} (st : St c.B ρ H s.heap) (x : Step c.B (some L') ρ s ρ' s') (ne : L ≠ L') (l : Loc c.B L m ρ s.heap) (hx : LxOk (some L') s.heap) : Loc c.B L m ρ' s'.heap := by
  obtain ⟨⟨mc, ⟨o, es, ep, h1, h2, h3, h4⟩, hv⟩, off, lo⟩ := l
  obtain ⟨sl, e'⟩ := x.keepN L o h1 off (by simpa using ne) (fun vs q => by rw [h2] at q; cases q)
  refine ⟨⟨mc, ⟨_, es, ep, e', h2, h3, h4⟩, fun y v e => ?_⟩, x.off off h1, lo⟩
  obtain ⟨pv, a, b⟩ := hv y v e
  exact ⟨pv, a, b.mono st hx x⟩

theorem TabOk.keep' {C : Addr} {h h' : Heap} (t : TabOk B h) (keep : ∀ b o, h.get? b = some o → b ≠ C → h'.get? b = some o) (hP : B.P ≠ C) (nf : ∀ b o vs, h.get? b = some o → o.data = .fields vs → h'.get? b = some o) : TabOk B h' := by
  obtain ⟨ps, h1, h2, h3⟩ := t
  exact ⟨ps, keep _ _ h1 hP, h2, fun pq hp => (h3 pq hp).imp id (by rintro ⟨c', z1, z2⟩; exact ⟨c', z1, code_keep nf z2⟩)⟩

/-- locals of a comprehension go -/
theorem gone (st : St B ρ H s.heap) (lc : Loc B C m ρ s.heap) (hP : B.P ≠ C) (hs : Heap.SameBut C s.heap h') (x : Step B Lx ρ₀ s₀ ρ s) (hC : s₀.heap.get? C = none) :
    Step B Lx ρ₀ s₀ ρ { s with heap := h' } ∧ St B ρ H h' ∧ (∀ v pv, VR B s.heap ρ v pv → VR B h' ρ v pv) ∧ (∀ L m, Loc B L m ρ s.heap → L ≠ C → Loc B L m ρ h') := by
  obtain ⟨⟨mc, ⟨oC, es, ep, ho, hd, _⟩, _⟩, off, lo⟩ := lc
  have keep : ∀ b o, s.heap.get? b = some o → b ≠ C → h'.get? b = some o := fun b o e n => (hs.2 b n).trans e
  have nf : ∀ b o vs, s.heap.get? b = some o → o.data = .fields vs → h'.get? b = some o := fun b o vs e d => keep b o e fun q => by subst q; rw [ho] at e; cases e; rw [hd] at d; cases d
  have exc : ∀ a, ExcAny B s.heap a → ExcAny B h' a := fun a z => exc_keep nf z
  have vr : ∀ v pv, VR B s.heap ρ v pv → VR B h' ρ v pv := fun v pv r => r.imp (by rintro a vs ⟨o, e, c, n, d⟩; exact ⟨o, keep a o e (fun q => by subst q; rw [ho] at e; cases e; rw [hd] at d; cases d), c, n, d⟩) exc
  refine ⟨⟨x.pre, fun a o e => ?_, fun a o e f n d => ?_, fun a o e q d => ?_, fun a o e f p d c1 c2 => ?_, fun c q z => code_keep nf (x.code c q z), fun a z => exc a (x.exc a z), x.gens, x.os⟩, ⟨fun a o e => ?_, st.tab.keep' keep hP nf, st.len, st.lo, st.apart, fun n q ob e1 e2 => ?_⟩, vr, fun L m l hne => ?_⟩
  · obtain ⟨o', e'⟩ := x.live a o e
    exact ⟨o', keep _ _ e' fun q => by rw [q, hC] at e; cases e⟩
  · obtain ⟨sl, e'⟩ := x.keepN a o e f n d
    exact ⟨sl, keep _ _ e' fun q => by rw [q, hC] at e; cases e⟩
  · obtain ⟨o', e', d'⟩ := x.keepL a o e q d
    exact ⟨o', keep _ _ e' (fun q => by rw [q, hC] at e; cases e), d'⟩
  · exact keep _ _ (x.keepF a o e f p d c1 c2) fun q => by rw [q, hC] at e; cases e
  · exact keep _ _ (st.base a o e) fun q => by rw [q, lo] at e; cases e
  · have hq := off q (List.mem_of_getElem? e1)
    exact (st.rel n q ob e1 e2).imp (fun o e => keep _ _ e (Ne.symm hq.1)) (fun o e => keep _ _ e (Ne.symm hq.2)) (fun _ _ r => vr _ _ r) (fun _ _ z => code_keep nf z) fun _ _ e => e
  · obtain ⟨⟨mc, ⟨o, es, ep, h1, h2, h3, h4⟩, hv⟩, off, lo⟩ := l
    refine ⟨⟨mc, ⟨_, es, ep, keep _ _ h1 hne, h2, h3, h4⟩, fun y v e => ?_⟩, off, lo⟩
    obtain ⟨pv, a, b⟩ := hv y v e
    exact ⟨pv, a, vr _ _ b⟩
end

/-! ### comprehensions -/
noncomputable def relF (scope cs : Scope) : Scope :=
  { scope with names := scope.names.map fun (n, k) => if (k == .free && cs.kind == .function && cs.names.lookup n == some .cell) then (n, .cell) else (n, k) }
theorem relabel_eq {scope cs : Scope} {env : Env} (h : env.scope = cs) : relabel scope env = relF scope cs := by
  unfold relabel relF Env.kindOf
  rw [h]

inductive ItrQ (c : Cx) (fa : FrA) (m : LM) (target : Expr) (G : HA → Prop) (N : Nat) (item : Nat → V) (P : HA → Prop) (L : Addr) (ρ : Rho) (s : Shared) (itv : Value) (s₂ : Shared) : Prop
  | mk (it : Addr) (as : List Addr) (It : Nat → Heap → Prop) (nm : Nat) (q : Addr × Addr) (ρ1 : Rho) (H1 : HA) (s1 : Shared) : itv = .ref it → Itr c target G nm ρ1.length q as it It N item → It 0 s₂.heap → Step c.B (some L) ρ s ρ1 s1 → St c.B ρ1 H1 s1.heap → Loc c.B L m ρ1 s1.heap →
    Step c.B none ρ1 s1 ρ1 s₂ → St c.B ρ1 H1 s₂.heap → (∀ a ∈ as, s1.heap.get? a = none) → (nm < ρ1.length → ρ1[nm]? = some q) → P H1 → ItrQ c fa m target G N item P L ρ s itv s₂
noncomputable def FirstW (c : Cx) (fa : FrA) (iter target : Expr) (m : LM) (H : HA) (G : HA → Prop) (N : Nat) (item : Nat → V) (P : HA → Prop) (X : Addr → LM → HA → Prop) : Prop :=
  ∀ A env L ρ s, A.handled = none → Ok c fa m H A env L ρ s → wpAny c.B.M A (eval iter env) (fun x s₁ => wpAny c.B.M A (pyIter x) (fun itv s₂ => ItrQ c fa m target G N item P L ρ s itv s₂) (RzE c.B env.frame L ρ s X) s₁) (RzE c.B env.frame L ρ s X) s
section
variable {c : Cx} {fa : FrA} {m : LM} {H : HA} {iter target : Expr} {G : HA → Prop} {N : Nat} {item : Nat → V} {P : HA → Prop} {X : Addr → LM → HA → Prop}
theorem first_val (h : EvW c fa iter m H (fun v H1 => IterW c target G N item v H1 ∧ P H1) X) : FirstW c fa iter target m H G N item P X := fun A env L ρ s hh k =>
  wpAny_mono (h A env L ρ s k) (by rintro pv s₁ ⟨ρ₁, H₁, v, x1, st1, l1, r, hi, hp⟩; exact wpAny_mono (hi A ρ₁ s₁ pv _ hh st1 r) (by rintro itv s₂ ⟨it, as, It, nm, q, h1, h2, h3, h4, h5, h6, h7⟩; exact ⟨it, as, It, nm, q, ρ₁, H₁, s₁, h1, h2, h3, x1, st1, l1, h4, h5, h6, h7, hp⟩) fun _ _ e => e) fun _ _ e => e
theorem first_enum {f : Str} {fp rp tp : Pos} {e : Expr} {n : Nat} {xs : List V} {es : List Expr} {kt : Nat} (hf : TyName c fa f "enumerate") (h : EvW c fa e m H (fun v H1 => v = .ref n ∧ H1[n]? = some (.list xs) ∧ P H1) X) (he : ∀ env, starEach [e] env = [(false, eval e env)] := by intro _; with_unfolding_all rfl) :
    FirstW c fa (.Call (.Name f fp) [e] [] rp) (.Tuple es kt tp) m H (fun H => H[n]? = some (.list xs)) xs.length (fun i => .tup [.int i, xs.getD i .none]) P X := fun A env L ρ s hh k => by
  refine ty_call1 k hf (wpAny_mono (h A env L ρ s k) ?_ fun _ _ e => e) he
  rintro pv s₁ ⟨ρ₁, H₁, v, x1, st1, l1, r, hv, hn, hp⟩
  subst hv
  exact wpAny_mono (iter_enum hn hh st1 r) (fun ev s₂ h2 => wpAny_mono h2 (by rintro itv s₃ ⟨it, as, It, nm, q, h1, h2, h3, h4, h5, h6, h7⟩; exact ⟨it, as, It, nm, q, ρ₁, H₁, s₁, h1, h2, h3, x1, st1, l1, h4, h5, h6, h7, hp⟩) fun _ _ e => e) fun _ _ e => e
end

section
variable {prog : Program} {w : World} {A : Around} {R : Result → Shared → Prop} {s : Shared}
theorem compLoop_list {elt target iter : Expr} {scope : Scope} {pos : Pos} {it acc : Value} {env : Env} (I : Nat → Shared → Prop)
    (turn : ∀ n s, I n s → wpAny (model prog w) A (pyNext it) (fun r s₁ => match r with
      | none => R (.ok .next) s₁
      | some v => wpAny (model prog w) A (letOwnedTupleGo target it v) (fun _ s₂ => wpAny (model prog w) A (assign target env v) (fun _ s₂ => wpAny (model prog w) A (eval elt env) (fun x s₃ =>
          wpAny (model prog w) A (call (.builtin "list.append") [acc, x]) (fun _ s₄ => ∃ m, m < n ∧ I m s₄) (notedBy (model prog w) A env fun e s' => R (.error e) s') s₃)
          (notedBy (model prog w) A env fun e s' => R (.error e) s') s₂) (notedBy (model prog w) A env fun e s' => R (.error e) s') s₂) (notedBy (model prog w) A env fun e s' => R (.error e) s') s₁) (notedBy (model prog w) A env fun e s' => R (.error e) s') s)
    (n : Nat) (h : I n s) :
    codeAny (model prog w) A (.compLoop (.ListComp elt [⟨target, iter, [], 0⟩] scope pos) 0 it acc env) R s := by
  refine codeAny_loop rfl I (fun n s hI => ?_) n h
  show wpAny _ _ ((compTurn (.ListComp elt [⟨target, iter, [], 0⟩] scope pos) 0 it acc env).onRaise (fun x => do noteFrame x env; theTreesLotGoes x)) _ _ s
  refine wpAny_noted ?_
  rw [compTurn_list1]
  refine wpAny_bind (wpAny_standAt (wpAny_bind (wpAny_mono (turn n s hI) (fun r s₁ h₁ => ?_) fun _ _ h' => h')))
  cases r with
  | none => exact wpAny_pure h₁
  | some v =>
    refine wpAny_bind (wpAny_mono h₁ (fun _ s₂ h₁ => ?_) fun _ _ h' => h')
    exact wpAny_bind (wpAny_mono h₁ (fun _ s₂ h₂ => wpAny_bind (wpAny_bind (wpAny_mono h₂ (fun x s₃ h₃ => wpAny_bind (wpAny_mono h₃
      (fun _ s₄ h₄ => wpAny_pure (wpAny_pure ⟨rfl, h₄⟩)) fun _ _ h' => h')) fun _ _ h' => h'))) fun _ _ h' => h')
end

/-- the abstract frame of a comprehension -/
noncomputable def compFr (fa : FrA) (scope : Scope) (frees : List Str) : FrA := ⟨fa.cn, relF scope fa.cs, fa.a, fa.ccd, frees.map fun x => (x, (fa.cl.lookup x).getD 0), false⟩
structure CompOk (fa : FrA) (scope : Scope) (frees : List Str) : Prop where
  clos : ∀ env : Env, (∀ x ∈ frees, (env.cells.lookup x).isSome) → closureFor scope env = pure (frees.map fun x => (x, (env.cells.lookup x).getD 0))
  sub : ∀ x ∈ frees, (fa.cl.lookup x).isSome
  kind : scope.kind = .function
  nocell : ∀ x ∈ scope.names, x.2 ≠ .cell
  names : ∀ x ∈ scope.names, x.2 = .local → scope.names.lookup x.1 = some .local

theorem comp_cells {fa : FrA} {ρ : Rho} {cells : List (Str × Addr)} {frees : List Str} (hc : CellsR ρ fa.cl cells) (hs : ∀ x ∈ frees, (fa.cl.lookup x).isSome) :
    (∀ x ∈ frees, (cells.lookup x).isSome) ∧ CellsR ρ (frees.map fun x => (x, (fa.cl.lookup x).getD 0)) (frees.map fun x => (x, (cells.lookup x).getD 0)) := by
  have h1 : ∀ x ∈ frees, (cells.lookup x).isSome := fun x hx => by
    obtain ⟨n, hn⟩ := Option.isSome_iff_exists.mp (hs x hx)
    obtain ⟨q, _, e⟩ := hc x n hn
    rw [e]; rfl
  refine ⟨h1, ?_⟩
  induction frees with
  | nil => intro x n e; simp at e
  | cons y ys ih =>
    intro x n e
    rw [List.map_cons, List.lookup_cons] at e ⊢
    cases q : x == y with
    | true =>
      rw [q] at e
      have hy := hs y (.head _)
      obtain ⟨k, hk⟩ := Option.isSome_iff_exists.mp hy
      obtain ⟨p, e1, e2⟩ := hc y k hk
      rw [hk] at e
      simp only [Option.getD_some, Option.some.injEq] at e
      subst e
      exact ⟨p, e1, by simp [e2]⟩
    | false =>
      rw [q] at e
      exact ih (fun x hx => hs x (.tail _ hx)) (fun x hx => h1 x (.tail _ hx)) x n e

theorem tup_step {B : Bx} {ρ ρ' : Rho} {H : HA} {s s' : Shared} {Lx : Option Addr} (st : St B ρ H s.heap) (hL : LxOk Lx s.heap) (x : Step B Lx ρ s ρ' s') {a : Addr} {vs : Array Value} (h : IsTup s.heap a vs) : IsTup s'.heap a vs := by
  obtain ⟨o, ho, hc, n, hd⟩ := h
  have off := st.off ho (.inr ⟨hc, _, _, hd⟩)
  obtain ⟨sl, e'⟩ := x.keepN _ o ho off (fun q => by
    obtain ⟨m, o', es, ep, ho', hd', _⟩ := hL _ q.symm
    rw [ho] at ho'; cases ho'; rw [hd] at hd'; cases hd') (fun vs q => by rw [hd] at q; cases q)
  exact ⟨_, e', hc, n, hd⟩
theorem Itr.step {c : Cx} {target : Expr} {G : HA → Prop} {nm b : Nat} {q : Addr × Addr} {as : List Addr} {it : Addr} {It : Nat → Heap → Prop} {N : Nat} {item : Nat → V} (hit : Itr c target G nm b q as it It N item)
    {ρ ρ' : Rho} {H : HA} {s s' : Shared} {Lx : Option Addr} (st : St c.B ρ H s.heap) (hL : LxOk Lx s.heap) (x : Step c.B Lx ρ s ρ' s') {i : Nat} (h : It i s.heap) : It i s'.heap :=
  hit.frame _ _ _ h (fun a ha => (hit.tame _ _ h a ha).kept st x) (fun _ _ z => tup_step st hL x z) fun _ _ r => r.imp (fun _ _ z => tup_step st hL x z) x.exc

noncomputable def CompP (c : Cx) (fa' : FrA) (elt target : Expr) (G : HA → Prop) (N : Nat) (item : Nat → V) (Q : V → HA → Prop) (H1 : HA) : Prop :=
  ∃ I : Nat → LM → HA → Prop, I 0 [] (H1 ++ [.list []]) ∧ (∀ i m H, I i m H → G H) ∧
    (∀ i m H, i < N → I i m H → TgW c fa' target (item i) m H (fun m' H' => EvW c fa' elt m' H' (fun v H'' => ∃ xs, H''[H1.length]? = some (.list xs) ∧ xs.length ≤ 1000 ∧ I (i + 1) m' (H''.set H1.length (.list (xs ++ [v])))) NX)) ∧
    ∀ m H, I N m H → Q (.ref H1.length) H

inductive CmpI (c : Cx) (fb : FrA) (A : Around) (ce : Env) (C D : Addr) (ρ1 : Rho) (s1 : Shared) (nm : Nat) (q : Addr × Addr) (It : Nat → Heap → Prop) (I : Nat → LM → HA → Prop) (h N n : Nat) (s : Shared) : Prop
  | mk (i : Nat) (ρ : Rho) (m : LM) (H : HA) : n = N - i → i ≤ N → Step c.B none ρ1 s1 ρ s → Ok c fb m H A ce C ρ s → (nm < ρ1.length → ρ[nm]? = some q) → It i s.heap → ρ[h]? = some (D, D) → I i m H → CmpI c fb A ce C D ρ1 s1 nm q It I h N n s
theorem comp_turns {c : Cx} {fa : FrA} {H1 : HA} {A : Around} {ce : Env} {C D : Addr} {ρ1 ρ₄ : Rho} {s1 s₄ : Shared} {iter target elt : Expr} {scope : Scope} {frees : List Str} {pos : Pos} {G : HA → Prop} {N : Nat} {item : Nat → V} {Q : V → HA → Prop}
    {it : Addr} {as : List Addr} {It : Nat → Heap → Prop} {nm : Nat} {q : Addr × Addr} {R : Result → Shared → Prop} {I : Nat → LM → HA → Prop}
    (hh : A.handled = none) (hit : Itr c target G nm ρ1.length q as it It N item) (lo : ∀ a ∈ as, c.B.h0.get? a = none) (dead : ∀ a ∈ as, s1.heap.get? a = none) (hG : ∀ i m H, I i m H → G H)
    (turn : ∀ i m H, i < N → I i m H → TgW c (compFr fa scope frees) target (item i) m H (fun m' H' => EvW c (compFr fa scope frees) elt m' H' (fun v H'' => ∃ xs, H''[H1.length]? = some (.list xs) ∧ xs.length ≤ 1000 ∧ I (i + 1) m' (H''.set H1.length (.list (xs ++ [v])))) NX))
    (done : ∀ m H, I N m H → Q (.ref H1.length) H) (x14 : Step c.B none ρ1 s1 ρ₄ s₄) (k4 : Ok c (compFr fa scope frees) [] (H1 ++ [.list []]) A ce C ρ₄ s₄) (hq4 : nm < ρ1.length → ρ₄[nm]? = some q) (it4 : It 0 s₄.heap)
    (e4 : ρ₄[H1.length]? = some (D, D)) (hI0 : I 0 [] (H1 ++ [.list []])) (hC1 : s1.heap.get? C = none)
    (hR : ∀ ρ' m' H' s', Step c.B none ρ1 s1 ρ' s' → St c.B ρ' H' s'.heap → ρ'[H1.length]? = some (D, D) → Loc c.B C m' ρ' s'.heap → Q (.ref H1.length) H' → R (.ok .next) s') :
    codeAny c.B.M A (.compLoop (.ListComp elt [⟨target, iter, [], 0⟩] scope pos) 0 (.ref it) (.ref D) ce) R s₄ := by
  refine compLoop_list (CmpI c (compFr fa scope frees) A ce C D ρ1 s1 nm q It I H1.length N) ?_ N ⟨0, _, _, _, rfl, Nat.zero_le _, x14, k4, hq4, it4, e4, hI0⟩
  rintro n s ⟨i, ρ, m, H, hn, hi, x, k, hr, hit', hD, hI⟩
  by_cases hlt : i < N
  · refine wpAny_mono (hit.next A i ρ s H _ hh hlt (hG _ _ _ hI) k.st hr hit') (fun r s' h => ?_) fun _ _ e => e
    cases r with
    | none => exact h.elim
    | some v =>
      refine wpAny_mono h ?_ fun _ _ e => e
      rintro _ s'' ⟨s3, e3, mv, it3, vr⟩
      subst e3
      have ta := hit.tame i _ hit'
      have k3 := ok_moved ta lo mv k
      have x3 := mv.step ta dead x
      refine wpAny_mono (turn i m H hlt hI A _ _ ρ s'' v _ k3 vr) ?_ fun _ _ e => e
      rintro _ s4 ⟨ρ4, m4, H4, y4, st4, l4, hb⟩
      have k4 := k3.next y4 st4 l4
      have it4 : It (i + 1) s4.heap := hit.step k3.st k3.lc.lx y4 it3
      refine wpAny_mono (hb A _ _ ρ4 s4 k4) ?_ fun e s5 r => NX.no r
      rintro xv s5 ⟨ρ5, H5, xa, y5, st5, l5, rx, xs, hxs, hxl, hI5⟩
      have k5 := k4.next y5 st5 l5
      have it5 : It (i + 1) s5.heap := hit.step st4 k4.lc.lx y5 it4
      have hD5 := y5.grow (y4.grow hD)
      have rD : VR c.B s5.heap ρ5 (.ref H1.length) (.ref D) := .ref (q := (D, D)) hD5
      have hap := fn_append (c := c) (Q := fun _ H' => H' = H5.set H1.length (.list (xs ++ [xa]))) (XO := fun _ _ => False) hxs (by lia) rfl A ρ5 s5 [.ref D, xv] k5.ak st5 ⟨rD, rx, trivial⟩
      refine wpAny_mono hap ?_ (by rintro e s6 ⟨_, _, _, _, _, _, _, z⟩; exact z.elim)
      rintro _ s6 ⟨ρ6, H6, _, y6, st6, _, hH6⟩
      subst hH6
      have l6 := l5.mono st5 y6
      refine ⟨N - (i + 1), by lia, i + 1, ρ6, m4, _, rfl, hlt, ?_, k5.next (y6.atL l5.off) st6 l6, fun z => y6.grow (y5.grow (y4.grow (hr z))), hit.step st5 .none y6 it5, y6.grow hD5, hI5⟩
      exact ((x3.fresh hC1 (fun _ z => nomatch z) y4).fresh hC1 (fun _ z => nomatch z) y5).trans y6
  · have : i = N := by lia
    subst this
    refine wpAny_mono (hit.stop A ρ s H _ hh (hG _ _ _ hI) k.st hr hit') ?_ fun _ _ e => e
    rintro r s' ⟨hr', mv⟩
    subst hr'
    have ta := hit.tame _ _ hit'
    have k3 := ok_moved ta lo mv k
    exact hR ρ m H s' (mv.step ta dead x) k3.st hD k3.lc (done m H hI)
theorem comp_loop {c : Cx} {fa : FrA} {m : LM} {H1 : HA} {A : Around} {env : Env} {L : Addr} {ρ1 : Rho} {s1 s₂ : Shared} {iter target elt : Expr} {scope : Scope} {frees : List Str} {pos : Pos} {G : HA → Prop} {N : Nat} {item : Nat → V} {Q : V → HA → Prop}
    {it : Addr} {as : List Addr} {It : Nat → Heap → Prop} {nm : Nat} {q : Addr × Addr} {RR : Value → Addr → Result → Shared → Prop} {E : Value → Shared → Prop}
    (k1 : Ok c fa m H1 A env L ρ1 s1) (hh : A.handled = none) (K : CompOk fa scope frees) (hit : Itr c target G nm ρ1.length q as it It N item) (i0 : It 0 s₂.heap) (x2 : Step c.B none ρ1 s1 ρ1 s₂) (st2 : St c.B ρ1 H1 s₂.heap) (dead : ∀ a ∈ as, s1.heap.get? a = none) (hq : nm < ρ1.length → ρ1[nm]? = some q)
    (hP : CompP c (compFr fa scope frees) elt target G N item Q H1)
    (hRR : ∀ D C ρ' m' H' s', Step c.B none ρ1 s1 ρ' s' → St c.B ρ' H' s'.heap → ρ'[H1.length]? = some (D, D) → Loc c.B C m' ρ' s'.heap → s1.heap.get? C = none → c.B.P ≠ C → Q (.ref H1.length) H' → RR (.ref D) C (.ok .next) s') :
    wpAny c.B.M A (newList []) (fun acc s₃ => wpAny c.B.M A (newFunctionEnv scope env.globals (frees.map fun x => (x, (env.cells.lookup x).getD 0)) [] env.qual none .none (some env)) (fun cenv s₄ =>
      codeAny c.B.M A (.compStart (.ListComp elt [⟨target, iter, [], 0⟩] scope pos) 0 (.ref it) acc { cenv with scope := relabel scope env }) (RR acc cenv.locals) s₄) E s₃) E s₂ := by
  obtain ⟨I, hI0, hG, turn, done⟩ := hP
  refine wpAny_newObj_type (wpAny_newFunctionEnv K.nocell (by intro y hy; simp at hy) (fun h₁ hns₁ hsb₁ => ?_) K.kind)
  dsimp only at hns₁ hsb₁ ⊢
  generalize hH2 : s₂.heap.push { cls := .type "list", dict := none, data := .seq ([] : List Value).toArray } = h3 at hns₁ hsb₁ ⊢
  have kp3 : ∀ b o, s₂.heap.get? b = some o → h3.get? b = some o := fun b o e => hH2 ▸ Heap.get?_push_of_some _ e
  have hz3 : h3.objs.size = s₂.heap.objs.size + 1 := by rw [← hH2, Heap.size_push]
  have hC3 : h3.get? h3.objs.size = none := Heap.get?_none_of_le (Nat.le_refl _)
  have lst3 : IsL h3 s₂.heap.objs.size ([] : List Value).toArray 0 := by
    rw [← hH2]; exact Heap.get?_push_size _ rfl
  have x3 : Step c.B none ρ1 s₂ (ρ1 ++ [(s₂.heap.objs.size, s₂.heap.objs.size)]) { s₂ with heap := h3 } := Step.new kp3 rfl rfl ⟨Nat.le_refl _, Nat.le_refl _⟩
  have st3 := St.new (ob := .list []) (s' := { s₂ with heap := h3 }) (q := (s₂.heap.objs.size, s₂.heap.objs.size)) st2 kp3 rfl rfl ⟨Nat.le_refl _, Nat.le_refl _⟩ ⟨rfl, [], 0, lst3, trivial⟩
  have kp4 : ∀ b o, h3.get? b = some o → h₁.get? b = some o := fun b o e => (hsb₁.2 b fun q => by rw [q, hC3] at e; cases e).trans (Heap.get?_push_of_some _ e)
  have x4 : Step c.B none (ρ1 ++ [(s₂.heap.objs.size, s₂.heap.objs.size)]) { s₂ with heap := h3 } (ρ1 ++ [(s₂.heap.objs.size, s₂.heap.objs.size)]) { s₂ with heap := h₁, toks := s₂.toks + ([] : List (Str × Value)).length } := Step.ext kp4 rfl rfl
  have st4 := St.ext (s := { s₂ with heap := h3 }) (s' := { s₂ with heap := h₁, toks := s₂.toks + ([] : List (Str × Value)).length }) st3 kp4 rfl rfl
  have x14 := (x2.trans x3).trans x4
  have hC1 : s1.heap.get? h3.objs.size = none := dead_of (x2.trans x3).live hC3
  have hPC : c.B.P ≠ h3.objs.size := fun z => by
    obtain ⟨ps, t1, _⟩ := k1.st.tab
    rw [z, hC1] at t1; cases t1
  have offC : Off (ρ1 ++ [(s₂.heap.objs.size, s₂.heap.objs.size)]) h3.objs.size := fun q hq => ⟨Nat.ne_of_gt (st3.lt q hq).1, Nat.ne_of_gt (st3.lt q hq).2⟩
  have loC : c.B.h0.get? h3.objs.size = none := dead_of (fun a o e => ⟨o, k1.st.base a o e⟩) hC1
  have lC : Loc c.B h3.objs.size [] (ρ1 ++ [(s₂.heap.objs.size, s₂.heap.objs.size)]) h₁ := ⟨⟨_, hns₁, fun x v e => by simp at e⟩, offC, loC⟩
  obtain ⟨hc1, hc2⟩ := comp_cells k1.ev.cells K.sub
  have ev4 : ∀ ρ, (∀ n q, ρ1[n]? = some q → ρ[n]? = some q) → EnvOk (compFr fa scope frees) ρ h3.objs.size A { newEnv scope h3.objs.size env.globals (frees.map fun x => (x, (env.cells.lookup x).getD 0)) env.qual none .none (some env) env.builtins with scope := relabel scope env } := fun ρ hg => by
    refine ⟨relabel_eq k1.ev.sc, K.kind, rfl, k1.ev.glob, k1.ev.blt, k1.ev.code, fun x n e => ?_, k1.ev.top, fun z => nomatch z⟩
    obtain ⟨q, e1, e2⟩ := hc2 x n e
    exact ⟨q, hg _ _ e1, e2⟩
  have k4 : Ok c (compFr fa scope frees) [] (H1 ++ [.list []]) A { newEnv scope h3.objs.size env.globals (frees.map fun x => (x, (env.cells.lookup x).getD 0)) env.qual none .none (some env) env.builtins with scope := relabel scope env } h3.objs.size (ρ1 ++ [(s₂.heap.objs.size, s₂.heap.objs.size)]) { s₂ with heap := h₁, toks := s₂.toks + ([] : List (Str × Value)).length } :=
    ⟨k1.ak.mono x14, ev4 _ fun _ _ e => x14.grow e, st4, lC⟩
  have it4 : It 0 h₁ := hit.step st3 .none x4 (hit.step (s' := { s₂ with heap := h3 }) st2 .none x3 i0)
  have e4 : (ρ1 ++ [(s₂.heap.objs.size, s₂.heap.objs.size)])[H1.length]? = some (s₂.heap.objs.size, s₂.heap.objs.size) := by rw [← k1.st.len, List.getElem?_concat_length]
  have lo : ∀ a ∈ as, c.B.h0.get? a = none := fun a ha => dead_of (fun a o e => ⟨o, k1.st.base a o e⟩) (dead a ha)
  have loop : ∀ s₄, s₄ = { s₂ with heap := h₁, toks := s₂.toks + ([] : List (Str × Value)).length } → codeAny c.B.M A (.compLoop (.ListComp elt [⟨target, iter, [], 0⟩] scope pos) 0 (.ref it) (.ref s₂.heap.objs.size) { newEnv scope h3.objs.size env.globals (frees.map fun x => (x, (env.cells.lookup x).getD 0)) env.qual none .none (some env) env.builtins with scope := relabel scope env }) (RR (.ref s₂.heap.objs.size) h3.objs.size) s₄ := by
    rintro s₄ rfl
    exact comp_turns hh hit lo dead hG turn done x14 k4 (fun z => x14.grow (hq z)) it4 e4 hI0 hC1 fun ρ' m' H' s' a1 a2 a3 a4 a5 => hRR _ _ ρ' m' H' s' a1 a2 a3 a4 hC1 hPC a5
  exact codeAny_compStart_list (loop _ rfl) (hit.self A 0 _ _ _ it4 (loop _ rfl))

theorem ev_comp {c : Cx} {fa : FrA} {m : LM} {H : HA} {iter target elt : Expr} {scope : Scope} {frees : List Str} {pos : Pos} {G : HA → Prop} {N : Nat} {item : Nat → V} {Q : V → HA → Prop} {X : Addr → LM → HA → Prop}
    (hn : c.hv = none) (K : CompOk fa scope frees) (h : FirstW c fa iter target m H G N item (CompP c (compFr fa scope frees) elt target G N item Q) X) (hs : ∀ env x, foldedSetIterable iter env x = pure x := by intro _ _; with_unfolding_all rfl) :
    EvW c fa (.ListComp elt [⟨target, iter, [], 0⟩] scope pos) m H Q X := fun A env L ρ s k => by
  rw [eval_ListComp]
  have hh := k.ak.hd.trans hn
  obtain ⟨hc1, _⟩ := comp_cells k.ev.cells K.sub
  refine wpAny_comprehension_free (use := none) rfl (hs env) (K.clos env hc1) K.kind K.names (wpAny_mono (h A env L ρ s hh k) (fun x s₁ h₁ => wpAny_mono h₁ ?_ fun _ _ e => e) fun _ _ e => e)
  rintro itv s₂ ⟨it, as, It, nm, q, ρ1, H1, s1, e1, hit, i0, x1, st1, l1, x2, st2, dead, hq, hP⟩
  subst e1
  refine comp_loop (k.next x1 st1 l1) hh K hit i0 x2 st2 dead hq hP fun D C ρ' m' H' s' y st hD lC hC hPC hQ => ?_
  obtain ⟨mc, hns, _⟩ := lC.ns
  refine ⟨mc, hns, fun h' hs' => ?_⟩
  obtain ⟨y', st', vr, _⟩ := gone st lC hPC hs' y hC
  have l' := l1.mono st1 y'
  exact ⟨ρ', H', .ref H1.length, x1.trans (y'.atL l1.off), st', l', .ref (q := (D, D)) hD, hQ⟩

theorem xs_asgComp {c : Cx} {fa : FrA} {m : LM} {H : HA} {iter target elt : Expr} {scope : Scope} {frees : List Str} {x : Str} {xp pos spos : Pos} {G : HA → Prop} {N : Nat} {item : Nat → V} {Q : Fl → LM → HA → Prop} {X : Addr → LM → HA → Prop}
    (hn : c.hv = none) (K : CompOk fa scope frees) (h : FirstW c fa iter target m H G N item (CompP c (compFr fa scope frees) elt target G N item (fun v H' => Q .next (fset x v m) H')) X) (hx : fa.cs.names.lookup x = some .local)
    (hsw : ∀ env : Env, env.scope = fa.cs → swapsWith (.ListComp elt [⟨target, iter, [], 0⟩] scope pos) (some (.Name x xp)) spos.line env = pure true) (hs : ∀ env x, foldedSetIterable iter env x = pure x := by intro _ _; with_unfolding_all rfl) :
    ExS c fa (.Assign [.Name x xp] (.ListComp elt [⟨target, iter, [], 0⟩] scope pos) spos) m H Q X := fun A env L ρ s k => by
  rw [exec_Assign_Name_used _ _ _ _ (hsw env k.ev.sc)]
  have hh := k.ak.hd.trans hn
  obtain ⟨hc1, _⟩ := comp_cells k.ev.cells K.sub
  refine wpAny_bind (wpAny_standAt ?_)
  refine wpAny_bind ?_
  unfold evalThenUse
  refine wpAny_bind (wpAny_comprehension_free (use := some _) rfl (hs env) (K.clos env hc1) K.kind K.names (wpAny_mono (h A env L ρ s hh k) (fun x s₁ h₁ => wpAny_mono h₁ ?_ fun _ _ e => e) fun _ _ e => e))
  rintro itv s₂ ⟨it, as, It, nm, q, ρ1, H1, s1, e1, hit, i0, x1, st1, l1, x2, st2, dead, hq, hP⟩
  subst e1
  refine comp_loop (k.next x1 st1 l1) hh K hit i0 x2 st2 dead hq hP fun D C ρ' m' H' s' y st hD lC hC hPC hQ => ?_
  have y1 := x1.trans (y.atL l1.off)
  have l5 := l1.mono st1 y
  have k5 := k.next y1 st l5
  have hLC : L ≠ C := fun z => by
    obtain ⟨mc, ⟨o, _, _, e, _⟩, _⟩ := l1.ns
    rw [z, hC] at e; cases e
  refine wpAny_assign_Name (wpAny_mono (store_loc k5 hx (.ref (q := (D, D)) hD)) ?_ fun _ _ e => e)
  rintro _ s6 ⟨y6, st6, l6⟩
  have lC6 := lC.other st y6 (Ne.symm hLC) k5.lc.lx
  obtain ⟨mc, hns, _⟩ := lC6.ns
  refine ⟨mc, hns, fun h' hs' => ?_⟩
  obtain ⟨y', st', vr, lo⟩ := gone st6 lC6 hPC hs' ((y.atL l1.off).trans y6) hC
  refine wpAny_pure (wpAny_pure ⟨ρ', _, H', .next, x1.trans y', st', lo _ _ l6 hLC, trivial, hQ⟩)
/-! ### PP -/
noncomputable abbrev AdK (c : Cx) (fa : FrA) (m : LM) (e : Expr) (Q : V → HA → Prop) (X : Addr → LM → HA → Prop) : V → HA → Prop := fun v H1 => match v with
  | .bool b => if b then EvW c fa e m H1 Q X else Q (.bool false) H1
  | _ => False
theorem AdK.inv {c : Cx} {fa : FrA} {m : LM} {e : Expr} {Q : V → HA → Prop} {X : Addr → LM → HA → Prop} {v : V} {H1 : HA} (h : AdK c fa m e Q X v H1) : ∃ b : Bool, v = .bool b ∧ if b then EvW c fa e m H1 Q X else Q (.bool false) H1 := by
  cases v <;> first | exact h.elim | exact ⟨_, rfl, h⟩
section
variable {c : Cx} {fa : FrA} {m : LM} {H : HA} {Q : V → HA → Prop} {X : Addr → LM → HA → Prop}
theorem ev_and1 {e : Expr} {pos : Pos} (h : EvW c fa e m H Q X) : EvW c fa (.BoolOp .And [e] pos) m H Q X := fun A env L ρ s k => BoolOp_one (h A env L ρ s k)
theorem ev_and {e₁ e₂ : Expr} {rest : List Expr} {pos : Pos} (h : EvW c fa e₁ m H (AdK c fa m (.BoolOp .And (e₂ :: rest) pos) Q X) X) : EvW c fa (.BoolOp .And (e₁ :: e₂ :: rest) pos) m H Q X := fun A env L ρ s k => by
  refine BoolOp_and (wpAny_mono (h A env L ρ s k) ?_ fun _ _ e => e)
  rintro pv s₁ ⟨ρ₁, H₁, v, x1, st1, l1, r, h1⟩
  obtain ⟨b, rfl, h1⟩ := AdK.inv h1
  obtain rfl := r.bool_inv
  ·
    refine wpAny_truthy_bool ?_
    cases b
    · exact ⟨ρ₁, H₁, .bool false, x1, st1, l1, .bool false, h1⟩
    · exact wpAny_mono (h1 A env L ρ₁ s₁ (k.next x1 st1 l1)) (fun _ _ r => r.after x1) fun _ _ r => r.after x1
end

/-! ### defs within a def -/
theorem codeAmong_keep {p : Pos} {c : Value} (l r : List Value) (h : TriplesOk l) (hn : codeAmong p l = some c) : codeAmong p (l ++ r) = some c := by
  fun_induction TriplesOk l with
  | case1 => simp [codeAmong] at hn
  | case2 a t b u x rest ih =>
    simp only [List.cons_append, codeAmong] at hn ⊢
    split at hn
    · rename_i hc; rw [if_pos hc]; exact hn
    · rename_i hc; rw [if_neg hc]; exact ih h hn
  | case3 l h1 h2 => exact h.elim
theorem codeAmong_other {p pos : Pos} {c : Value} (l : List Value) (h : TriplesOk l) (hn : codeAmong p l = none) (ne : ¬ (pos.line = p.line ∧ pos.col = p.col)) : codeAmong p (l ++ [rawInt pos.line, rawInt pos.col, c]) = none := by
  fun_induction TriplesOk l with
  | case1 =>
    simp only [List.nil_append, codeAmong, rawInt]
    rw [if_neg]
    intro z
    simp only [Bool.and_eq_true, beq_iff_eq] at z
    exact ne ⟨by lia, by lia⟩
  | case2 a t b u x rest ih =>
    simp only [List.cons_append, codeAmong] at hn ⊢
    split at hn
    · cases hn
    · rename_i hc; rw [if_neg hc]; exact ih h hn
  | case3 l h1 h2 => exact h.elim
theorem Triples_str {l : List Value} (h : TriplesOk l) {x : Str} {t : Tok} : l[1]? ≠ some (.str x t) := by
  fun_induction TriplesOk l with
  | case1 => simp
  | case2 a t b u x rest ih => simp
  | case3 l h1 h2 => exact h.elim

theorem tab_step {B : Bx} {ρ : Rho} {H : HA} {s : Shared} {h' : Heap} {ps : Array Value} (st : St B ρ H s.heap) (hx : Heap.ExtBut B.P s.heap h') (hT : s.heap.get? B.P = some (tabObj ps)) (ht : TriplesOk ps.toList) (tab' : TabOk B h') :
    Step B none ρ s ρ { s with heap := h' } ∧ St B ρ H h' := by
  obtain ⟨ps', hT', _⟩ := id tab'
  have offP : Off ρ B.P := st.off hT (.inl ⟨_, rfl⟩)
  have code : ∀ c q, s.heap.CodeRec c q → h'.CodeRec c q := fun c q ⟨c', o, vs, t, e, z1, z2, z3⟩ => ⟨c', o, vs, t, e, hx _ _ (fun y => by
    subst y; rw [hT] at z1; cases z1; cases z2
    exact Triples_str ht (by simpa using z3)) z1, z2, z3⟩
  have exc : ∀ a, ExcAny B s.heap a → ExcAny B h' a := fun a ⟨o, vs, z1, z2, z3, z0, z4⟩ => ⟨o, vs, hx _ _ (fun y => by subst y; rw [hT] at z1; cases z1; cases z2) z1, z2, z3, z0, z4.imp id (by
    rintro ⟨T, oT, ts, f, x, g1, g0, g2, g3, g⟩
    exact ⟨T, oT, ts, f, x, g1, g0, hx _ _ (fun y => by subst y; rw [hT] at g2; cases g2; cases g3) g2, g3, g⟩)⟩
  have x1 : Step B none ρ s ρ { s with heap := h' } := {
    pre := ⟨[], by simp, by simp⟩
    live := fun a o e => by
      by_cases q : a = B.P
      · subst q; exact ⟨_, hT'⟩
      · exact ⟨o, hx _ _ q e⟩
    keepN := fun a o e f _ d => ⟨o.slots, hx _ _ (fun q => by subst q; rw [hT] at e; cases e; exact d _ rfl) e⟩
    keepL := fun _ _ _ z _ => nomatch z
    keepF := fun a o e f p _ _ _ => hx _ _ p e
    code := code
    exc := exc
    gens := rfl
    os := rfl }
  refine ⟨x1, fun a o e => hx _ _ (fun q => by rw [q, B.hP] at e; cases e) (st.base a o e), tab', st.len, st.lo, st.apart, fun n q ob e1 e2 => ?_⟩
  have hq := offP q (List.mem_of_getElem? e1)
  exact (st.rel n q ob e1 e2).imp (fun o e => hx _ _ (Ne.symm hq.1) e) (fun o e => hx _ _ (Ne.symm hq.2) e) (fun _ _ r => r.mono st .none x1) (fun _ _ z => code _ _ z) fun _ _ e => e

/-- a def within a def -/
structure DefOk (c : Cx) (fa : FrA) (frees : List Str) (name qual : Str) (params : Arguments) (scope : Scope) (pos : Pos) : Prop where
  clos : ∀ env : Env, (∀ x ∈ frees, (env.cells.lookup x).isSome) → closureFor scope env = pure (frees.map fun x => (x, (env.cells.lookup x).getD 0))
  sub : ∀ x ∈ frees, (fa.cl.lookup x).isSome
  code : fa.ccd = .ref c.B.cd
  real : fa.real = true
  d0 : params.defaults = []
  k0 : params.kw_defaults = []
  ann : ∀ env : Env, annTrees params none env = []
  qn : ∀ (L : Addr) (cells : List (Str × Addr)), qualnameIn (envX fa.cn fa.cs L fa.a fa.ccd cells) name name = qual
  tab : ∀ pq ∈ c.B.tabs, pos.line = pq.1.line ∧ pos.col = pq.1.col → pq.2 = qual
  mem : (pos, qual) ∈ c.B.tabs

theorem codeAmong_pos {p pos : Pos} (h : pos.line = p.line ∧ pos.col = p.col) (l : List Value) : codeAmong p l = codeAmong pos l := by
  fun_induction codeAmong p l with
  | case1 line t col u c rest hc => rw [codeAmong, h.1, h.2, if_pos hc]
  | case2 line t col u c rest hc ih => rw [codeAmong, h.1, h.2, if_neg hc, ih]
  | case3 l hl => rw [codeAmong]; exact hl

theorem xs_def {c : Cx} {fa : FrA} {m : LM} {H : HA} {Q : Fl → LM → HA → Prop} {X : Addr → LM → HA → Prop} {frees : List Str} {name qual : Str} {params : Arguments} {body : List Stmt} {scope : Scope} {pos : Pos}
    (D : DefOk c fa frees name qual params scope pos) (hx : fa.cs.names.lookup name = some .local)
    (hq : Q .next (fset name (.ref H.length) m) (H ++ [.clo ⟨name, qual, params, body, scope, frees.map fun x => (x, (fa.cl.lookup x).getD 0)⟩])) :
    ExS c fa (.FunctionDef name params body [] none [] scope none name pos) m H Q X := fun A env L ρ s k => by
  refine nestDef_K D.d0 D.k0 (D.ann env) ?_
  obtain ⟨hc1, hc2⟩ := comp_cells k.ev.cells D.sub
  have hcl := D.clos env hc1
  have hqn : qualnameIn env name name = qual := by
    obtain ⟨e, _⟩ := k.ev.real D.real
    rw [e]; exact D.qn _ _
  rw [hqn]
  have st := k.st
  obtain ⟨ps, hP, ht, htabs⟩ := id st.tab
  have hgs := c.B.T.g.keeps st.base
  obtain ⟨bm, ob, b1, b2, b3, b4, b5, b6⟩ := c.B.T.bmain
  have hgP : mainGlobals ≠ c.B.P := fun q => by
    obtain ⟨o, es, ep, e, hd, _⟩ := hgs
    rw [q, hP] at e; cases e; cases hd
  have hbP : bm ≠ c.B.P := fun q => by
    have e := st.base _ _ b3
    rw [q, hP] at e; cases e; cases b4
  have hbG : bm ≠ mainGlobals := fun q => by
    obtain ⟨o, es, ep, e, hd, _⟩ := c.B.T.g
    rw [q, e] at b3; cases b3; rw [hd] at b6; cases b6
  -- the last steps: the function object, its name
  have fin : ∀ (h' : Heap) (tk : Tok) (doc ctv : Value) (c' : Addr), Step c.B none ρ s ρ { s with heap := h' } → St c.B ρ H h' → h'.CodeRec (.ref c') qual →
      wpAny c.B.M A (storeName env name (.ref h'.objs.size)) (fun _ => ExP c.B L ρ s Q .next) (RzE c.B env.frame L ρ s X)
        { s with heap := h'.push (fnMade name qual params body scope (frees.map fun x => (x, (env.cells.lookup x).getD 0)) doc ((c.B.mg "__name__").getD .none) c' ctv), toks := tk } := fun h' tk doc ctv c' x1 st1 hrec => by
    have l1 := k.lc.mono k.st x1
    have kp : ∀ b o, h'.get? b = some o → (h'.push (fnMade name qual params body scope (frees.map fun x => (x, (env.cells.lookup x).getD 0)) doc ((c.B.mg "__name__").getD .none) c' ctv)).get? b = some o := fun b o e => Heap.get?_push_of_some _ e
    have x2 : Step c.B none ρ { s with heap := h' } (ρ ++ [(h'.objs.size, h'.objs.size)]) { s with heap := h'.push (fnMade name qual params body scope (frees.map fun x => (x, (env.cells.lookup x).getD 0)) doc ((c.B.mg "__name__").getD .none) c' ctv), toks := tk } := Step.new kp rfl rfl ⟨Nat.le_refl _, Nat.le_refl _⟩
    have st2 := St.new (s := { s with heap := h' }) (ob := .clo ⟨name, qual, params, body, scope, frees.map fun x => (x, (fa.cl.lookup x).getD 0)⟩) (q := (h'.objs.size, h'.objs.size)) (s' := { s with heap := h'.push (fnMade name qual params body scope (frees.map fun x => (x, (env.cells.lookup x).getD 0)) doc ((c.B.mg "__name__").getD .none) c' ctv), toks := tk }) st1 kp rfl rfl ⟨Nat.le_refl _, Nat.le_refl _⟩
      ⟨rfl, _, doc, _, c', ctv, Heap.get?_push_size _ rfl, x2.code _ _ hrec, fun x n e => (hc2 x n e).elim (by rintro q ⟨e1, e2⟩; exact ⟨q, x2.grow e1, e2⟩)⟩
    have l2 := l1.mono st1 x2
    have x12 := x1.trans x2
    have k2 := k.next (x12.atL k.lc.off) st2 l2
    have r2 : VR c.B (h'.push (fnMade name qual params body scope (frees.map fun x => (x, (env.cells.lookup x).getD 0)) doc ((c.B.mg "__name__").getD .none) c' ctv)) (ρ ++ [(h'.objs.size, h'.objs.size)]) (.ref H.length) (.ref h'.objs.size) := .ref (q := (h'.objs.size, h'.objs.size)) (by rw [← st1.len, List.getElem?_concat_length])
    exact wpAny_mono (store_loc k2 hx r2) (by rintro _ s3 ⟨x3, st3, l3⟩; exact ⟨_, _, _, .next, (x12.atL k.lc.off).trans x3, st3, l3, trivial, hq⟩) fun _ _ e => e
  cases hf : codeAmong pos ps.toList with
  | none =>
    refine makeFunction_K (mg := c.B.mg) hcl k.ev.glob hgs (k.ev.code.trans D.code) (c.B.C.keeps st.base) hP ht hf hgP ⟨bm, ob, b1, b2, hbG, hbP, st.base _ _ b3, b4, b5, b6⟩ fun c' ctv doc h' tk hx' hge hlt hrec htb => ?_
    have tab' : TabOk c.B h' := by
      refine ⟨_, htb, by simpa using TriplesOk_snoc pos.line pos.col (.ref c') ps.toList ht, fun pq hp => ?_⟩
      rw [show (ps ++ #[rawInt pos.line, rawInt pos.col, .ref c']).toList = ps.toList ++ [rawInt pos.line, rawInt pos.col, .ref c'] by simp]
      by_cases he : pos.line = pq.1.line ∧ pos.col = pq.1.col
      · refine .inr ⟨c', ?_, ?_⟩
        · rw [codeAmong_pos he]; exact codeAmong_snoc _ ht hf
        · rw [D.tab pq hp he]; exact hrec
      · rcases htabs pq hp with h0 | ⟨c₂, h1, h2⟩
        · exact .inl (codeAmong_other _ ht h0 he)
        · refine .inr ⟨c₂, codeAmong_keep _ _ ht h1, ?_⟩
          obtain ⟨cc, o, vs, t, e, z1, z2, z3⟩ := h2
          refine ⟨cc, o, vs, t, e, hx' _ _ (fun y => ?_) z1, z2, z3⟩
          subst y; rw [hP] at z1; cases z1; cases z2
          exact Triples_str ht (by simpa using z3)
    obtain ⟨x1, st1⟩ := tab_step (s := s) st hx' hP ht tab'
    exact fin h' tk doc ctv c' x1 st1 hrec
  | some cv =>
    rcases htabs _ D.mem with h0 | ⟨c₂, h1, h2⟩
    · rw [hf] at h0; cases h0
    rw [hf] at h1; cases h1
    refine makeFunction_hit (mg := c.B.mg) hcl k.ev.glob hgs (k.ev.code.trans D.code) (c.B.C.keeps st.base) hP ht hf ⟨bm, ob, b1, b2, hbG, hbP, st.base _ _ b3, b4, b5, b6⟩ fun ctv doc h' tk hk hsz => ?_
    have x1 : Step c.B none ρ s ρ { s with heap := h' } := Step.ext hk rfl rfl
    have st1 := St.ext (s := s) (s' := { s with heap := h' }) st hk rfl rfl
    exact fin h' tk doc ctv c₂ x1 st1 (x1.code _ _ h2)
/-! ### PR -/
/-! ### calls of defs with cells -/
section
variable {B : Bx} {ρ : Rho} {H : HA} {s s' : Shared}
theorem Step.many (k : ∀ b o, s.heap.get? b = some o → s'.heap.get? b = some o) (hg : s'.gens = s.gens) (ho : s'.os = s.os) (t : Rho) (hq : ∀ q ∈ t, s.heap.objs.size ≤ q.1 ∧ s.heap.objs.size ≤ q.2) : Step B none ρ s (ρ ++ t) s' where
  pre := ⟨t, rfl, fun p hp => ⟨Heap.get?_none_of_le (hq p hp).1, Heap.get?_none_of_le (hq p hp).2⟩⟩
  live := fun a o e => ⟨o, k a o e⟩
  keepN := fun a o e _ _ _ => ⟨o.slots, k a o e⟩
  keepL := fun a o e _ h => ⟨o, k a o e, h⟩
  keepF := fun a o e _ _ _ _ _ => k a o e
  code := fun _ _ x => code_keep (fun b o _ e _ => k b o e) x
  exc := fun _ x => exc_keep (fun b o _ e _ => k b o e) x
  gens := hg
  os := ho
theorem new_many (st : St B ρ H s.heap) (k : ∀ b o, s.heap.get? b = some o → s'.heap.get? b = some o) (hg : s'.gens = s.gens) (ho : s'.os = s.os) (t : Rho) (obs : List Ob) (hl : t.length = obs.length)
    (hq : ∀ q ∈ t, s.heap.objs.size ≤ q.1 ∧ s.heap.objs.size ≤ q.2) (hp : t.Pairwise fun p q => p.1 ≠ q.1 ∧ p.1 ≠ q.2 ∧ p.2 ≠ q.1 ∧ p.2 ≠ q.2)
    (r : ∀ (i : Nat) q ob, t[i]? = some q → obs[i]? = some ob → OR B s'.heap (ρ ++ t) ob q) : Step B none ρ s (ρ ++ t) s' ∧ St B (ρ ++ t) (H ++ obs) s'.heap := by
  have x1 : Step B none ρ s (ρ ++ t) s' := Step.many k hg ho t hq
  refine ⟨x1, fun a o e => k _ _ (st.base a o e), st.tab.keep fun b o _ e _ => k b o e, by simp [st.len, hl], fun p hp' => ?_, ?_, fun n p ob e1 e2 => ?_⟩
  · rcases List.mem_append.mp hp' with hp' | hp'
    · exact st.lo p hp'
    · exact ⟨dead_of (fun a o e => ⟨o, st.base a o e⟩) (Heap.get?_none_of_le (hq p hp').1), dead_of (fun a o e => ⟨o, st.base a o e⟩) (Heap.get?_none_of_le (hq p hp').2), Nat.lt_of_lt_of_le st.big (hq p hp').1⟩
  · rw [List.pairwise_append]
    refine ⟨st.apart, hp, fun a ha b hb => ?_⟩
    have h1 := st.lt a ha
    exact ⟨Nat.ne_of_lt (Nat.lt_of_lt_of_le h1.1 (hq b hb).1), Nat.ne_of_lt (Nat.lt_of_lt_of_le h1.1 (hq b hb).2), Nat.ne_of_lt (Nat.lt_of_lt_of_le h1.2 (hq b hb).1), Nat.ne_of_lt (Nat.lt_of_lt_of_le h1.2 (hq b hb).2)⟩
  · by_cases hn : n < ρ.length
    · rw [List.getElem?_append_left hn] at e1
      rw [List.getElem?_append_left (by rw [← st.len]; exact hn)] at e2
      exact (st.rel n p ob e1 e2).imp (fun o e => k _ o e) (fun o e => k _ o e) (fun _ _ r => r.mono st .none x1) (fun _ _ x => code_keep (fun b o _ e _ => k b o e) x) fun m q' e => x1.grow e
    · rw [List.getElem?_append_right (by lia)] at e1
      rw [List.getElem?_append_right (by rw [← st.len]; lia), ← st.len] at e2
      exact r _ _ _ e1 e2
end

theorem bindL_skip {f : Str → Option NameKind} : ∀ {ns : List Str} {vs : List Value} {m : Str → Option Value} {x : Str}, x ∉ ns → bindL f (ns.zip vs) m x = m x
  | [], _, _, _, _ => by simp [bindL]
  | n :: ns, [], _, _, _ => by simp [bindL]
  | n :: ns, v :: vs, m, x, h => by
    rw [List.zip_cons_cons, bindL, bindL_skip (fun z => h (.tail _ z))]
    split
    · refine if_neg (fun (z : x = n) => h ?_)
      rw [z]; exact .head _
    · rfl
theorem bindC_skip {f : Str → Option NameKind} : ∀ {ns : List Str} {vs : List Value} {m : Str → Option Value} {x : Str}, x ∉ ns → bindC f (ns.zip vs) m x = m x
  | [], _, _, _, _ => by simp [bindC]
  | n :: ns, [], _, _, _ => by simp [bindC]
  | n :: ns, v :: vs, m, x, h => by
    rw [List.zip_cons_cons, bindC, bindC_skip (fun z => h (.tail _ z))]
    split
    · rfl
    · refine if_neg (fun (z : x = n) => h ?_)
      rw [z]; exact .head _
section
variable {B : Bx} {h : Heap} {ρ : Rho} {f : Str → Option NameKind}
theorem bindL_get : ∀ {ns : List Str} {xs : List V} {vs : List Value} {m : Str → Option Value} {x : Str} {v : V}, VRs B h ρ xs vs → ns.Nodup → (ns.zip xs).lookup x = some v → f x = some .local → ∃ pv, bindL f (ns.zip vs) m x = some pv ∧ VR B h ρ v pv
  | [], _, _, _, x, v, _, _, e, _ => by simp at e
  | n :: ns, [], _, _, x, v, _, _, e, _ => by simp at e
  | n :: ns, a :: xs, [], _, x, v, r, _, _, _ => r.elim
  | n :: ns, a :: xs, b :: vs, m, x, v, r, nd, e, hf => by
    rw [List.nodup_cons] at nd
    rw [List.zip_cons_cons, List.lookup_cons] at e
    rw [List.zip_cons_cons, bindL]
    cases q : x == n with
    | true =>
      rw [q] at e; cases e
      have : x = n := eq_of_beq q
      subst this
      rw [if_pos hf, bindL_skip nd.1]
      exact ⟨b, if_pos rfl, r.1⟩
    | false => rw [q] at e; exact bindL_get r.2 nd.2 e hf
theorem bindC_get : ∀ {ns : List Str} {xs : List V} {vs : List Value} {m : Str → Option Value} {x : Str} {v : V}, VRs B h ρ xs vs → ns.Nodup → (ns.zip xs).lookup x = some v → f x ≠ some .local → ∃ pv, bindC f (ns.zip vs) m x = some pv ∧ VR B h ρ v pv
  | [], _, _, _, x, v, _, _, e, _ => by simp at e
  | n :: ns, [], _, _, x, v, _, _, e, _ => by simp at e
  | n :: ns, a :: xs, [], _, x, v, r, _, _, _ => r.elim
  | n :: ns, a :: xs, b :: vs, m, x, v, r, nd, e, hf => by
    rw [List.nodup_cons] at nd
    rw [List.zip_cons_cons, List.lookup_cons] at e
    rw [List.zip_cons_cons, bindC]
    cases q : x == n with
    | true =>
      rw [q] at e; cases e
      have : x = n := eq_of_beq q
      subst this
      rw [if_neg hf, bindC_skip nd.1]
      exact ⟨b, if_pos rfl, r.1⟩
    | false => rw [q] at e; exact bindC_get r.2 nd.2 e hf
end

/-- a def of the text's that has cells -/
structure FnC (K : Frag) (f : Addr) (fd : FuncData) (names ks : List Str) (body : List Stmt) : Prop where
  at_ : ∃ oc od osl, K.lookup f = some ⟨oc, od, .func fd, osl⟩
  code : codeIn K fd.code fd.qualname = true
  body : fd.body = .stmts body
  glob : fd.globals = mainGlobals
  blt : fd.builtins = builtinsNs
  clo : fd.closure = []
  bind : ∀ vs : List Value, vs.length = names.length → bindArgs fd ⟨vs, []⟩ = pure (names.zip vs)
  nodup : names.Nodup
  knodup : ks.Nodup
  kinds : ∀ y ∈ names, fd.scope.names.lookup y = some .local ∨ (fd.scope.names.lookup y = some .cell ∧ y ∈ ks)
  cells : ∀ n i k, ks[i]? = some k → (cellsFrom n fd.scope.names []).lookup k = some (n + i)
  co : fd.scope.isCoroutine = false
  gen : fd.scope.isGenerator = false
  kind : fd.scope.kind = .function

theorem lookup_zipIdx : ∀ {ks : List Str} {b : Nat} {k : Str} {n : Nat}, (ks.zipIdx b).lookup k = some n → ∃ i, ks[i]? = some k ∧ n = b + i
  | [], _, _, _, e => by simp at e
  | x :: ks, b, k, n, e => by
    rw [List.zipIdx_cons, List.lookup_cons] at e
    cases q : k == x with
    | true =>
      rw [q] at e; cases e
      exact ⟨0, by rw [eq_of_beq q]; rfl, rfl⟩
    | false =>
      rw [q] at e
      obtain ⟨i, e1, e2⟩ := lookup_zipIdx e
      exact ⟨i + 1, e1, by lia⟩

theorem fnc_code {c : Cx} {H : HA} {Q : V → HA → Prop} {X : Addr → HA → Prop} {xs : List V} {f : Addr} {fd : FuncData} {names ks : List Str} {body : List Stmt} {m0 : LM} {cvs : List (Option V)} (F : FnC c.B.K f fd names ks body) (hl : names.length = xs.length) (hd : 1 ≤ c.d)
    (hm0 : ∀ p ∈ m0, (names.zip xs).lookup p.1 = some p.2 ∧ fd.scope.names.lookup p.1 = some .local) (hkl : ks.length = cvs.length)
    (hcv : ∀ (i : Nat) (k : Str) (cv : Option V), ks[i]? = some k → cvs[i]? = some cv → match cv with | none => k ∉ names | some v => (names.zip xs).lookup k = some v ∧ fd.scope.names.lookup k ≠ some .local)
    (h : ExW ⟨c.B, c.hv, c.d - 1⟩ ⟨fd.qualname, fd.scope, f, fd.code, ks.zipIdx H.length, true⟩ body m0 (H ++ cvs.map .cell) (FnK Q) (FnX X)) : CodeW c f xs H Q X := fun A ρ s vs ak st va => by
  obtain ⟨oc, od, osl, hat⟩ := F.at_
  have hlv := va.length
  refine codeAny_call_cells (binds := names.zip vs) (by have := ak.dep; unfold recursionLimit; lia) (st.K _ _ hat) rfl (c.B.T.nolimit.keeps st.base) (codeRec_of st.K F.code) F.body (F.bind vs (by rw [hl, hlv])) F.clo
    (fun y hy => (F.kinds _ (List.of_mem_zip hy).1).imp id fun ⟨z1, z2⟩ => ⟨z1, by
      obtain ⟨i, hi⟩ := List.mem_iff_getElem?.mp z2
      rw [F.cells _ i _ hi]; rfl⟩) (fun s₁ ic => ?_) F.co F.gen F.kind
  have henv : callEnvC fd s.heap.objs.size f = envX fd.qualname fd.scope s.heap.objs.size f fd.code (cellsFrom (s.heap.objs.size + 1) fd.scope.names []) := by
    unfold callEnvC
    rw [F.glob, F.blt]; rfl
  rw [henv] at ic ⊢
  obtain ⟨⟨same, hns, hkp, hfresh⟩, hcell, _, _⟩ := ic
  obtain ⟨h₁, tk, rfl⟩ := same
  have ht : ∀ i q, ((List.range ks.length).map fun i => (s.heap.objs.size + 1 + i, s.heap.objs.size + 1 + i))[i]? = some q → i < ks.length ∧ q = (s.heap.objs.size + 1 + i, s.heap.objs.size + 1 + i) := fun i q e => by
    have hi := (List.getElem?_eq_some_iff.mp e).1
    simp at hi
    rw [List.getElem?_map, List.getElem?_range hi] at e
    cases e
    exact ⟨hi, rfl⟩
  have kof : ∀ x, (envX fd.qualname fd.scope s.heap.objs.size f fd.code (cellsFrom (s.heap.objs.size + 1) fd.scope.names [])).kindOf x = fd.scope.names.lookup x := fun x => rfl
  have hq' : ∀ q ∈ ((List.range ks.length).map fun i => (s.heap.objs.size + 1 + i, s.heap.objs.size + 1 + i)), s.heap.objs.size ≤ q.1 ∧ s.heap.objs.size ≤ q.2 := fun q hq => by
    obtain ⟨i, hi⟩ := List.mem_iff_getElem?.mp hq
    obtain ⟨_, rfl⟩ := ht i q hi
    exact ⟨by show _ ≤ _ + 1 + i; lia, by show _ ≤ _ + 1 + i; lia⟩
  have x0 : Step c.B none ρ s (ρ ++ (List.range ks.length).map fun i => (s.heap.objs.size + 1 + i, s.heap.objs.size + 1 + i)) { s with heap := h₁, toks := tk } := Step.many hkp rfl rfl _ hq'
  obtain ⟨_, st0⟩ := new_many (s' := { s with heap := h₁, toks := tk }) st hkp rfl rfl ((List.range ks.length).map fun i => (s.heap.objs.size + 1 + i, s.heap.objs.size + 1 + i)) (cvs.map .cell) (by simp [hkl]) hq' (by
    rw [List.pairwise_map]
    refine List.Pairwise.imp_of_mem (R := (· < ·)) (fun {a b} _ _ hab => ?_) (List.pairwise_lt_range)
    have hab' : a < b := hab
    have hab2 : s.heap.objs.size + 1 + a ≠ s.heap.objs.size + 1 + b := Nat.ne_of_lt (Nat.add_lt_add_left hab' _)
    exact ⟨hab2, hab2, hab2, hab2⟩) (fun i q ob e1 e2 => by
    obtain ⟨hi, rfl⟩ := ht i q e1
    rw [List.getElem?_map] at e2
    obtain ⟨cv, e3, rfl⟩ := Option.map_eq_some_iff.mp e2
    have hk := List.getElem?_eq_getElem hi
    have hic := hcell _ _ (F.cells (s.heap.objs.size + 1) i _ hk)
    have hcv' := hcv i _ cv hk e3
    cases cv with
    | none =>
      rw [bindC_skip hcv'] at hic
      exact ⟨rfl, hic⟩
    | some v =>
      obtain ⟨pv, g1, g2⟩ := bindC_get (m := fun _ => none) va F.nodup hcv'.1 (f := (envX fd.qualname fd.scope s.heap.objs.size f fd.code (cellsFrom (s.heap.objs.size + 1) fd.scope.names [])).kindOf) hcv'.2
      rw [g1] at hic
      exact ⟨rfl, pv, hic, g2.mono st .none x0⟩)
  generalize hcs : cellsFrom (s.heap.objs.size + 1) fd.scope.names [] = cs at *
  have offL0 : Off ρ s.heap.objs.size := fun q hq => ⟨Nat.ne_of_gt (st.lt q hq).1, Nat.ne_of_gt (st.lt q hq).2⟩
  have offL : Off (ρ ++ (List.range ks.length).map fun i => (s.heap.objs.size + 1 + i, s.heap.objs.size + 1 + i)) s.heap.objs.size := fun q hq => by
    rcases List.mem_append.mp hq with hq | hq
    · exact offL0 q hq
    · obtain ⟨i, hi⟩ := List.mem_iff_getElem?.mp hq
      obtain ⟨_, rfl⟩ := ht i q hi
      exact ⟨by show _ ≠ _ + 1 + i; lia, by show _ ≠ _ + 1 + i; lia⟩
  have loL : c.B.h0.get? s.heap.objs.size = none := dead_of (fun a o e => ⟨o, st.base a o e⟩) (Heap.get?_none_of_le (Nat.le_refl _))
  obtain ⟨l, hl', hfr⟩ := ak.fr
  have fr0 : ∀ e ∈ envX fd.qualname fd.scope s.heap.objs.size f fd.code cs :: l, FrOk c.B (ρ ++ (List.range ks.length).map fun i => (s.heap.objs.size + 1 + i, s.heap.objs.size + 1 + i)) h₁ e := fun e he => by
    rcases List.mem_cons.mp he with rfl | he
    · obtain ⟨oL, es, ep, e1, e2, _⟩ := hns
      exact ⟨F.kind, _, oL, rfl, loL, e1, (fun vs q => by rw [e2] at q; cases q), offL⟩
    · exact (hfr e he).mono x0
  have hfs : (A.deeper (envX fd.qualname fd.scope s.heap.objs.size f fd.code cs)).frames = some (envX fd.qualname fd.scope s.heap.objs.size f fd.code cs :: l) := by
    unfold Around.deeper; rw [hl']; rfl
  have ak0 : AOk ⟨c.B, c.hv, c.d - 1⟩ (A.deeper (envX fd.qualname fd.scope s.heap.objs.size f fd.code cs)) (ρ ++ (List.range ks.length).map fun i => (s.heap.objs.size + 1 + i, s.heap.objs.size + 1 + i)) h₁ := by
    refine ⟨ak.hd, ?_, ?_, ⟨_, hfs, fr0⟩⟩
    · have := ak.dep; show A.depth + 1 + 8 * (c.d - 1) ≤ 900; lia
    · have := ak.uni; show A.units + 3 + 60 * (c.d - 1) ≤ 9000; lia
  have k0 : Ok ⟨c.B, c.hv, c.d - 1⟩ ⟨fd.qualname, fd.scope, f, fd.code, ks.zipIdx H.length, true⟩ m0 (H ++ cvs.map .cell) (A.deeper (envX fd.qualname fd.scope s.heap.objs.size f fd.code cs)) (envX fd.qualname fd.scope s.heap.objs.size f fd.code cs) s.heap.objs.size (ρ ++ (List.range ks.length).map fun i => (s.heap.objs.size + 1 + i, s.heap.objs.size + 1 + i)) { s with heap := h₁, toks := tk } := by
    refine ⟨ak0, ⟨rfl, F.kind, rfl, rfl, rfl, rfl, fun x n e => ?_, ⟨_, _, hfs, rfl⟩, fun _ => ⟨rfl, _, hfs⟩⟩, st0, ⟨⟨_, hns, fun x v e => ?_⟩, offL, loL⟩⟩
    · obtain ⟨i, hi, rfl⟩ := lookup_zipIdx e
      have hil := (List.getElem?_eq_some_iff.mp hi).1
      refine ⟨(s.heap.objs.size + 1 + i, s.heap.objs.size + 1 + i), ?_, ?_⟩
      · rw [List.getElem?_append_right (by rw [st.len]; lia), st.len, List.getElem?_map, show H.length + i - H.length = i by lia, List.getElem?_range hil]; rfl
      · rw [← hcs]; exact F.cells _ i _ hi
    · obtain ⟨g1, g2⟩ := hm0 _ (mem_of_lookup e)
      obtain ⟨pv, g3, g4⟩ := bindL_get (m := fun _ => none) va F.nodup g1 (f := (envX fd.qualname fd.scope s.heap.objs.size f fd.code cs).kindOf) g2
      exact ⟨pv, g3, g4.mono st .none x0⟩
  have hnone : s.heap.get? s.heap.objs.size = none := Heap.get?_none_of_le (Nat.le_refl _)
  refine wpAny_mono (h _ _ _ _ _ k0) ?_ ?_
  · rintro f s' ⟨ρ', m', H', f', x1, st1, l1, fo, q⟩
    refine ⟨ρ', H', retV f', x0.fresh hnone (fun _ z => nomatch z) x1, st1, ?_, q⟩
    cases f' <;> cases f <;> first | exact fo.elim | exact .none | exact fo
  · rintro e s' ⟨ρ', m', H', a', he, x1, st1, l1, ex, q⟩
    subst he
    have hf1 : ∀ e ∈ envX fd.qualname fd.scope s.heap.objs.size f fd.code cs :: l, FrOk c.B ρ' s'.heap e := fun e he => (fr0 e he).mono (c := c) x1
    refine leave_exc st1 hfs hf1 (F := s.heap.objs.size) rfl (ex.mono fun x hx => hx.imp id ?_) fun s2 x2 st2 e2 => ?_
    · rintro ⟨f, z, rfl⟩; cases z; rfl
    · exact ⟨ρ', H', a', rfl, (x0.fresh hnone (fun _ z => nomatch z) x1).trans x2, st2, e2.ok, q⟩
/-! ### PS -/
/-! ### try -/
section
variable {c : Cx} {fa : FrA} {m : LM} {H : HA} {Q : Fl → LM → HA → Prop} {X : Addr → LM → HA → Prop}

theorem Ok.mark {A : Around} {env : Env} {L : Addr} {ρ : Rho} {s : Shared} {v : Value} (k : Ok c fa m H A env L ρ s) : Ok ⟨c.B, some v, c.d⟩ fa m H (A.mark (some v)) env L ρ s :=
  ⟨⟨rfl, k.ak.dep, k.ak.uni, k.ak.fr⟩, ⟨k.ev.sc, k.ev.kind, k.ev.loc, k.ev.glob, k.ev.blt, k.ev.code, k.ev.cells, k.ev.top, k.ev.real⟩, k.st, k.lc⟩

theorem came_exc {E : Value → Shared → Prop} {A : Around} {env : Env} {L : Addr} {ρ ρ₀ : Rho} {s s₀ : Shared} {a : Addr} {F : Addr} {m : LM} {H : HA} (hE : ∀ e s', RzE c.B env.frame L ρ₀ s₀ X e s' → E e s') (hF : env.frame = some F) (x0 : Step c.B (some L) ρ₀ s₀ ρ s) (st : St c.B ρ H s.heap) (lc : Loc c.B L m ρ s.heap) (e : ExcTr c.B s.heap a (fun x => x = rawInt F)) (q : X a m H) :
    cameBackBy c.B.M A env E (.ref a) s := by
  obtain ⟨o, vs, T, oT, ts, f, x, h1, h2, h3, h4, h5, h6, h7⟩ := id e
  refine wpAny_bind (wpAny_field h1 h3 h5 ?_)
  rw [if_neg (show ¬ ((Value.ref T == Value.none) = true) from by simp)]
  refine flight_exc (fr := env.frame) st e fun s3 x3 st3 e3 => ?_
  exact hE _ _ ⟨ρ, m, H, a, rfl, x0.trans (x3.atL lc.off), st3, lc.mono st x3, e3.ok.mono fun x hx => .inr ⟨F, hF, by rw [hx, hF]; rfl⟩, q⟩

theorem looks_exc {B : Bx} {h : Heap} {a : Addr} {fl : Value → Prop} (e : ExcOk B h a fl) : Looks B.M h (typeOf (.ref a)) (.ref B.CB) := by
  obtain ⟨o, vs, h1, h2, _⟩ := e
  rw [← h2]
  exact (Looks.ld h1).andThen .now

/-- note and unflight, when an exception leaves a try's body -/
theorem caught_exc {A : Around} {env : Env} {L : Addr} {ρ : Rho} {s s' : Shared} {e : Value} {E : Value → Shared → Prop} {R : Value → Shared → Prop} (k : Ok c fa m H A env L ρ s) (hr : fa.real = true) (r : RzE c.B env.frame L ρ s X e s')
    (h : ∀ ρ1 m1 H1 a F s2, env.frame = some F → Step c.B (some L) ρ s ρ1 s2 → Ok c fa m1 H1 A env L ρ1 s2 → ExcTr c.B s2.heap a (fun x => x = .none) → X a m1 H1 → R (.ref a) s2) :
    wpAny c.B.M A (noteFrame e env) (fun _ s₂ => wpAny c.B.M A (setFlight e none) (fun _ s₃ => R e s₃) E s₂) E s' := by
  obtain ⟨ρ1, m1, H1, a, rfl, x1, st1, l1, ex, q⟩ := r
  have k1 := k.next x1 st1 l1
  obtain ⟨l, hA, hl⟩ := k1.ak.fr
  obtain ⟨_, l', hA'⟩ := k.ev.real hr
  rw [hA'] at hA; cases hA
  obtain ⟨kd, F, oF, hF, hF0, _⟩ := hl env (.head _)
  refine note_exc st1 hA' hl hF (ex.mono fun x hx => hx.imp id ?_) fun s2 x2 st2 e2 => ?_
  · rintro ⟨f, z, rfl⟩; rw [hF] at z; cases z; rfl
  refine flight_exc (fr := none) st2 e2 fun s3 x3 st3 e3 => ?_
  have l2 := l1.mono st1 x2
  have l3 := l2.mono st2 x3
  have x13 := (x1.trans (x2.atL l1.off)).trans (x3.atL l2.off)
  exact h ρ1 m1 H1 a F s3 hF x13 (k.next x13 st3 l3) e3 q

noncomputable abbrev HndK (c : Cx) (H : HA) (P : HA → Prop) : V → HA → Prop := fun v H2 => v = .glob c.B.CB ∧ H2 = H ∧ P H
noncomputable abbrev TryK2 (c : Cx) (fa : FrA) (suite : List Stmt) (m1 : LM) (Q : Fl → LM → HA → Prop) (X : Addr → LM → HA → Prop) (a : Addr) : HA → Prop := fun H1 => ExW ⟨c.B, some (.ref a), c.d⟩ fa suite m1 H1 Q X
noncomputable abbrev TryX (c : Cx) (fa : FrA) (t : Expr) (suite : List Stmt) (Q : Fl → LM → HA → Prop) : Addr → LM → HA → Prop := fun a m1 H1 => EvW ⟨c.B, some (.ref a), c.d⟩ fa t m1 H1 (HndK c H1 (TryK2 c fa suite m1 Q NX a)) NX
noncomputable abbrev NoK : Fl → LM → HA → Prop := fun _ _ _ => False
noncomputable abbrev AgX (X : Addr → LM → HA → Prop) : Addr → LM → HA → Prop := fun a' _ H3 => X a' [] H3
noncomputable abbrev TryY (c : Cx) (fa : FrA) (t : Expr) (n : Str) (suite : List Stmt) (X : Addr → LM → HA → Prop) : Addr → LM → HA → Prop := fun a m1 H1 => EvW ⟨c.B, some (.ref a), c.d⟩ fa t m1 H1 (HndK c H1 (TryK2 c fa suite (fset n (.exc a) m1) NoK (AgX X) a)) NX
/-- the test of a handler -/
theorem handler_test {A : Around} {env : Env} {L : Addr} {ρ : Rho} {s : Shared} {a : Addr} {t : Expr} {hp : Pos} {R : Result → Shared → Prop} {P : HA → Prop} (hx : exmOne c.B.K (.ref c.B.CB) (.ref c.B.CB) = some true) (k : Ok c fa m H A env L ρ s) (e : ExcTr c.B s.heap a (fun x => x = .none))
    (ht : EvW ⟨c.B, some (.ref a), c.d⟩ fa t m H (HndK c H P) NX)
    (h : ∀ s2, Step c.B (some L) ρ s ρ s2 → Ok c fa m H A env L ρ s2 → ExcOk c.B s2.heap a (fun _ => True) → P H → R (.ok .brk) s2) :
    codeAny c.B.M (A.mark (some (.ref a))) (.handlers (.ref a) [.ExceptHandler (some t) none [] hp] env) R s := by
  refine codeAny_handlers_test (wpAny_mono (ht _ env L ρ s k.mark) ?_ fun e s r => NX.no r)
  rintro pv s₁ ⟨ρ₁, H₁, v, x1, st1, l1, r, hv, hH, hP⟩
  subst hv; subst hH
  have hρ : ρ₁ = ρ := by
    obtain ⟨t, rfl, _⟩ := x1.pre
    have h1 := st1.len
    have h2 := k.st.len
    simp at h1
    have : t.length = 0 := by lia
    rw [List.length_eq_zero_iff.mp this, List.append_nil]
  subst hρ
  obtain rfl := r.glob_inv
  have ex := x1.exc a (e.ok.mono fun _ _ => trivial)
  refine (exm_one (M := c.B.M) st1.K (looks_exc ex) hx).at (h := s₁.heap) ?_
  simp only [if_true]
  exact h s₁ x1 (k.next x1 st1 l1) ex hP

theorem xs_try {body suite : List Stmt} {b₀ : Stmt} {t : Expr} {hp pos : Pos} (hx : exmOne c.B.K (.ref c.B.CB) (.ref c.B.CB) = some true) (hr : fa.real = true)
    (h : ExW c fa body m H Q (TryX c fa t (b₀ :: suite) Q)) :
    ExS c fa (.Try body [.ExceptHandler (some t) none (b₀ :: suite) hp] [] [] pos) m H Q X := fun A env L ρ s k => by
  suffices g : ∀ (R : Flow → Shared → Prop) (E : Value → Shared → Prop), (∀ f s', ExP c.B L ρ s Q f s' → R f s') → wpAny c.B.M A (exec (.Try body [.ExceptHandler (some t) none (b₀ :: suite) hp] [] [] pos) env) R E s from g _ _ fun _ _ z => z
  intro R E hR
  refine wpAny_Try_except (wpAny_mono (h A env L ρ s k) ?_ fun e s₁ r => ?_)
  · rintro f s₁ ⟨ρ₁, m₁, H₁, f', x1, st1, l1, fo, h1⟩
    cases f' <;> cases f <;> try exact fo.elim
    · exact wpAny_execs_nil (hR _ _ ⟨ρ₁, m₁, H₁, _, x1, st1, l1, fo, h1⟩)
    all_goals exact hR _ _ ⟨ρ₁, m₁, H₁, _, x1, st1, l1, fo, h1⟩
  · refine caught_exc (R := fun e s₃ => wpAny c.B.M A (handleBy e env [.ExceptHandler (some t) none (b₀ :: suite) hp]) R E s₃) k hr r fun ρ1 m1 H1 a F s2 hF x1 k1 e1 ht => ?_
    refine wpAny_handleBy_cons (handler_test (P := TryK2 c fa (b₀ :: suite) m1 Q NX a) hx k1 e1 ht fun s3 x3 k3 e3 hs => ?_) (by intro z; cases z)
    refine codeAny_handlers_suite (unflight_exc k3.st e3 fun s4 x4 st4 e4 => ?_)
    have l4 := k3.lc.mono k3.st x4
    have k4 := k3.next (x4.atL k3.lc.off) st4 l4
    refine wpAny_mono (hs _ env L ρ1 s4 k4.mark) ?_ fun e s5 r => NX.no r
    rintro f s5 ⟨ρ5, m5, H5, f5, x5, st5, l5, fo, q5⟩
    exact hR _ _ ⟨ρ5, m5, H5, f5, ((x1.trans x3).trans (x4.atL k3.lc.off)).trans x5, st5, l5, fo, q5⟩

theorem xs_tryAs {body suite : List Stmt} {b₀ : Stmt} {t : Expr} {n : Str} {hp pos : Pos} (hx : exmOne c.B.K (.ref c.B.CB) (.ref c.B.CB) = some true) (hr : fa.real = true) (hn : fa.cs.names.lookup n = some .local)
    (h : ExW c fa body m H Q (TryY c fa t n (b₀ :: suite) X)) :
    ExS c fa (.Try body [.ExceptHandler (some t) (some n) (b₀ :: suite) hp] [] [] pos) m H Q X := fun A env L ρ s k => by
  suffices g : ∀ (R : Flow → Shared → Prop) (E : Value → Shared → Prop), (∀ f s', ExP c.B L ρ s Q f s' → R f s') → (∀ e s', RzE c.B env.frame L ρ s X e s' → E e s') → wpAny c.B.M A (exec (.Try body [.ExceptHandler (some t) (some n) (b₀ :: suite) hp] [] [] pos) env) R E s from g _ _ (fun _ _ z => z) fun _ _ z => z
  intro R E hR hE
  refine wpAny_Try_except (wpAny_mono (h A env L ρ s k) ?_ fun e s₁ r => ?_)
  · rintro f s₁ ⟨ρ₁, m₁, H₁, f', x1, st1, l1, fo, h1⟩
    cases f' <;> cases f <;> try exact fo.elim
    · exact wpAny_execs_nil (hR _ _ ⟨ρ₁, m₁, H₁, _, x1, st1, l1, fo, h1⟩)
    all_goals exact hR _ _ ⟨ρ₁, m₁, H₁, _, x1, st1, l1, fo, h1⟩
  · refine caught_exc (R := fun e s₃ => wpAny c.B.M A (handleBy e env [.ExceptHandler (some t) (some n) (b₀ :: suite) hp]) R E s₃) k hr r fun ρ1 m1 H1 a F s2 hF x1 k1 e1 ht => ?_
    refine wpAny_handleBy_cons (handler_test (P := TryK2 c fa (b₀ :: suite) (fset n (.exc a) m1) NoK (AgX X) a) hx k1 e1 ht fun s3 x3 k3 e3 hs => ?_) (by intro z; cases z)
    refine codeAny_handlers_suite_as (unflight_exc k3.st e3 fun s4 x4 st4 e4 => ?_)
    have l4 := k3.lc.mono k3.st x4
    have k4 := (k3.next (x4.atL k3.lc.off) st4 l4).mark (v := .ref a)
    refine wpAny_mono (store_loc (c := ⟨c.B, some (.ref a), c.d⟩) k4 hn (.exc (e4.mono fun _ _ => trivial))) ?_ fun _ _ e => e
    rintro _ s5 ⟨x5, st5, l5⟩
    have k5 := k4.next x5 st5 l5
    refine wpAny_mono (hs _ env L ρ1 s5 k5) (by rintro f s6 ⟨ρ6, m6, H6, f6, x6, st6, l6, fo, q6⟩; exact q6.elim) fun e s6 r => ?_
    obtain ⟨ρ6, m6, H6, a', rfl, x6, st6, l6, ex6, q6⟩ := r
    have k6 := k5.next x6 st6 l6
    have x06 := ((((x1.trans x3).trans (x4.atL k3.lc.off)).trans x5).trans x6)
    obtain ⟨l, hA, hl⟩ := k6.ak.fr
    obtain ⟨_, l', hA'⟩ := k6.ev.real hr
    rw [hA'] at hA; cases hA
    refine note_exc st6 hA' hl hF (ex6.mono fun x hx => hx.imp id ?_) fun s7 x7 st7 e7 => ?_
    · rintro ⟨f, z, rfl⟩; rw [hF] at z; cases z; rfl
    have l7 := l6.mono st6 x7
    have k7 := k6.next (x7.atL l6.off) st7 l7
    obtain ⟨mc, hns, hmc⟩ := l7.ns
    refine wpAny_nameGoes (m := mc) (by unfold Env.kindOf; rw [k7.ev.sc]; exact hn) (by rw [k7.ev.loc]; exact hns) (by rw [k7.ev.sc, k7.ev.kind]; rfl) fun h' m' hns' hs' => ?_
    rw [k7.ev.loc] at hns' hs'
    obtain ⟨x8, st8⟩ := Step.loc (tk := s7.toks + 1) st7 l7.off l7.lo hns hns' hs'
    have l8 : Loc c.B L [] ρ6 h' := ⟨⟨m', hns', fun x v e => by simp at e⟩, l7.off, l7.lo⟩
    have e8 : ExcTr c.B h' a' (fun x => x = rawInt F) := by
      have nf : ∀ b o vs, s7.heap.get? b = some o → o.data = .fields vs → h'.get? b = some o := fun b o vs e d => (hs'.2 b fun z => by
        subst z
        obtain ⟨o', es, ep, g1, g2, _⟩ := hns
        rw [e] at g1; cases g1; rw [d] at g2; cases g2).trans e
      obtain ⟨o, vs, T, oT, ts, f, x, h1, h2, h3, h4, h5, h6, h7, h8, h9, h10⟩ := e7
      exact ⟨o, vs, T, oT, ts, f, x, nf _ _ _ h1 h3, h2, h3, h4, h5, h6, nf _ _ _ h7 h9, h8, h9, h10⟩
    have k8 := k7.next x8 st8 l8
    have x08 := (x06.trans (x7.atL l6.off)).trans x8
    unfold PySem.passOn
    obtain ⟨o, vs, T, oT, ts, f, x, h1, h2, h3, h4, h5, h6, h7⟩ := id e8
    refine wpAny_bind (wpAny_field h1 h3 h5 ?_)
    rw [if_neg (show ¬ ((Value.ref T == Value.none) = true) from by simp)]
    refine wpAny_bind (flight_exc (fr := env.frame) (s := { s7 with heap := h', toks := s7.toks + 1 }) st8 e8 fun s9 x9 st9 e9 => wpAny_throw ?_)
    have l9 := l8.mono (s := { s7 with heap := h', toks := s7.toks + 1 }) st8 x9
    have k9 := k8.next (x9.atL l8.off) st9 l9
    obtain ⟨l, hA, hl⟩ := k9.ak.fr
    rw [hA'] at hA; cases hA
    refine note_exc st9 hA' hl hF (e9.ok.mono fun x hx => .inr (by rw [hx, hF]; rfl)) fun s10 x10 st10 e10 => ?_
    have l10 := l9.mono st9 x10
    exact came_exc hE hF ((x08.trans (x9.atL l8.off)).trans (x10.atL l9.off)) st10 l10 e10 q6
end
/-! ### PT -/
section
variable {c : Cx} {fa : FrA} {m : LM} {H : HA} {Q : Fl → LM → HA → Prop} {X : Addr → LM → HA → Prop}
/-- raise, of an exception in hand -/
theorem raise_exc {A : Around} {env : Env} {x : Sem Value} {R : Flow → Shared → Prop} {E : Value → Shared → Prop} {s : Shared} (hs : subIn c.B.K (.ref c.B.CB) (.type "BaseException") = some true) (hty : typeIn c.B.K (.ref c.B.CB) = some (.type "type"))
    (h : wpAny c.B.M A x (fun v s₁ => ∃ a ρ H, v = .ref a ∧ St c.B ρ H s₁.heap ∧ ExcOk c.B s₁.heap a (fun _ => True) ∧ (A.handled = none ∨ A.handled = some (.ref a)) ∧
      ∀ s2, Step c.B none ρ s₁ ρ s2 → St c.B ρ H s2.heap → ExcOk c.B s2.heap a (fun x => x = .none) → E (.ref a) s2) E s) : wpAny c.B.M A (raiseStmt env (some x) none) R E s := by
  unfold raiseStmt
  refine wpAny_bind (wpAny_mono h (fun v s₁ h₁ => ?_) fun _ _ x => x)
  obtain ⟨a, ρ, H, rfl, st, ex, hh, hE⟩ := h₁
  have Lt : Looks c.B.M s₁.heap (typeOf (.ref a)) (.ref c.B.CB) := looks_exc ex
  have Ls : Looks c.B.M s₁.heap (isSubtype (.ref c.B.CB) (.type "BaseException")) true := looks_subIn st.K hs
  have Li : Looks c.B.M s₁.heap (isInstance (.ref a) (.type "BaseException")) true := Lt.andThen Ls
  have Lty : Looks c.B.M s₁.heap (typeOf (.ref c.B.CB)) (.type "type") := looks_typeIn st.K hty
  have hit : ∀ {Q : Bool → Shared → Prop} {E : Value → Shared → Prop} {s2 : Shared}, s2 = s₁ → Q false s2 → wpAny c.B.M A (isType (.ref a)) Q E s2 := fun {Q E s2} e q => by
    subst e
    obtain ⟨o, vs, h1, h2, h3, _⟩ := id ex
    obtain ⟨hp, g, d, t, os⟩ := s2
    exact ks_wpAny_isType_inst h1 (fun cd z => by rw [h3] at z; cases z) q
  refine wpAny_bind (wpAny_pure ?_)
  refine wpAny_bind (wpAny_holding ?_)
  unfold excFromValue isExcClass
  refine wpAny_bind (wpAny_bind (hit rfl (wpAny_pure ?_)))
  rw [if_neg Bool.false_ne_true]
  refine wpAny_bind (Li.at ?_)
  rw [if_pos rfl]
  refine wpAny_pure ?_
  refine wpAny_bind (hit rfl ?_)
  rw [if_neg Bool.false_ne_true]
  unfold raisedInstance
  refine wpAny_bind (wpAny_bind (Lt.at (wpAny_bind (Lty.at ?_))))
  rw [if_pos (beq_self_eq_true _)]
  refine wpAny_pure ?_
  refine wpAny_bind (unflight_exc st ex fun s2 x2 st2 e2 => ?_)
  unfold raiseNew
  refine wpAny_bind (wpAny_handled ?_)
  rcases hh with hh | hh
  · rw [hh]; exact wpAny_throw (hE s2 x2 st2 e2)
  · rw [hh]
    simp only [bne_self_eq_false, Bool.false_eq_true, if_false]
    exact wpAny_throw (hE s2 x2 st2 e2)
noncomputable abbrev RseK (c : Cx) (m : LM) (X : Addr → LM → HA → Prop) : V → HA → Prop := fun v H1 => ∃ a, v = .exc a ∧ (c.hv = none ∨ c.hv = some (.ref a)) ∧ X a m H1
theorem xs_raise {e : Expr} {pos : Pos} (hs : subIn c.B.K (.ref c.B.CB) (.type "BaseException") = some true) (hty : typeIn c.B.K (.ref c.B.CB) = some (.type "type"))
    (h : EvW c fa e m H (RseK c m X) X) : ExS c fa (.Raise (some e) none pos) m H Q X := fun A env L ρ s k => by
  rw [arm_exec_Raise]
  refine wpAny_bind (wpAny_standAt (raise_exc hs hty (wpAny_bind (wpAny_mono (h A env L ρ s k) ?_ fun _ _ e => e))))
  rintro pv s₁ ⟨ρ₁, H₁, v, x1, st1, l1, r, a, hv, hh, hq⟩
  subst hv
  obtain ⟨rfl, ex⟩ := r.exc_inv
  refine wpAny_bind (wpAny_standAt (wpAny_pure ?_))
  refine ⟨_, ρ₁, H₁, rfl, st1, ex, ?_, fun s2 x2 st2 e2 => ⟨ρ₁, m, H₁, _, rfl, x1.trans (x2.atL l1.off), st2, l1.mono st1 x2, e2.mono fun _ z => .inl z, hq⟩⟩
  rw [k.ak.hd]; exact hh
end
/-! ### PU -/
theorem ints_are {B : Bx} {h : Heap} {ρ : Rho} : ∀ {ns : List Int} {vs : List Value}, VRs B h ρ (ns.map .int) vs → IntsAre vs ns
  | [], [], _ => .nil
  | n :: ns, [], r => r.elim
  | [], _ :: _, r => r.elim
  | n :: ns, v :: vs, r => by
    obtain ⟨r1, r2⟩ := r
    obtain ⟨_, rfl⟩ := r1.int_inv
    exact .cons _ _ (ints_are r2)
noncomputable def EqW (prog : Program) (w : World) (A : Around) (s : Shared) (y x : Value) : Prop := ∀ (E : Value → Shared → Prop) (Q : Bool → Shared → Prop), Q true s → wpAny (model prog w) A (eqBool y x) Q E s
theorem EqW.of {prog : Program} {w : World} {A : Around} {s : Shared} {y x : Value} (h : SeqAt.EqAt A s y x true) : EqW prog w A s y x := fun E Q q => h prog w E Q q
open SeqAt AutoSeq1 in
theorem tuple_ne_all {prog : Program} {w : World} {A : Around} {l b : Addr} {items items2 : Array Value} {n n2 : Nat} {dd dd2 : Option Addr} {sl sl2 : Array (Option Value)} {s : Shared} {Q : Fin → Shared → Prop} {E : Value → Shared → Prop} (hsz : items.size = items2.size)
    (hl : s.heap.get? l = some { cls := .type "tuple", dict := dd, data := .seq items n, slots := sl }) (hb : s.heap.get? b = some { cls := .type "tuple", dict := dd2, data := .seq items2 n2, slots := sl2 })
    (he : ∀ j (h1 : j < items.size) (h2 : j < items2.size), EqW prog w A s items[j] items2[j]) (h : Q (.done (.ret (.bool false))) s) : wpAny (model prog w) A (Builtin.«tuple.__ne__» ⟨[.ref l, .ref b], []⟩) Q E s := by
  obtain ⟨hp, g, d, tk, os⟩ := s
  have f2 := AutoSeq1.sub_tuple_tuple
  have hZ : (items.toList.zip items2.toList).length = min items.size items2.size := by simp
  wp_walk using wpAny_loadPart' hl, wpAny_loadPart' hb, wpAny_forIn_list _ (fun rest b s' => b.1 = none ∧ s' = ⟨hp, g, d, tk, os⟩ ∧ ∃ i, rest = (items.toList.zip items2.toList).drop i) _
  case turn =>
    rintro ⟨y, x⟩ rest b s' ⟨hb', rfl, i, hz⟩
    have hlt : i < (items.toList.zip items2.toList).length := by
      rcases Nat.lt_or_ge i (items.toList.zip items2.toList).length with h' | h'
      · exact h'
      · rw [List.drop_of_length_le h'] at hz; cases hz
    have hm : i < min items.size items2.size := hZ ▸ hlt
    have h1 : i < items.size := Nat.lt_of_lt_of_le hm (Nat.min_le_left _ _)
    have h2 : i < items2.size := Nat.lt_of_lt_of_le hm (Nat.min_le_right _ _)
    rw [List.drop_eq_getElem_cons hlt] at hz
    injection hz with hyx hrest
    have hy : y = items[i] := by have := congrArg Prod.fst hyx; simpa using this
    have hx : x = items2[i] := by have := congrArg Prod.snd hyx; simpa using this
    subst hy hx
    refine wpAny_bind (he i h1 h2 _ _ ?_)
    wp_walk
    exact ⟨rfl, rfl, i + 1, hrest⟩
  case fin =>
    rintro ⟨b1, b2⟩ s' ⟨hb', rfl, i, hz⟩
    simp only at hb'
    subst hb'
    wp_walk
    simpa [Builtin.Tuple.tupleCompareSizes, bne, hsz] using h
  case h =>
    exact ⟨rfl, rfl, 0, rfl⟩
section
variable {c : Cx} {H : HA} {Q : V → HA → Prop} {XO : Addr → HA → Prop}
theorem DctR.two {B : Bx} {h : Heap} {ρ : Rho} {a b : Str} {x y : V} {kvs : List (Str × Value)} (r : DctR B h ρ [(a, x), (b, y)] kvs) : ∃ v w, kvs = [(a, v), (b, w)] ∧ VR B h ρ x v ∧ VR B h ρ y w := by
  rcases kvs with _ | ⟨⟨a', v⟩, _ | ⟨⟨b', w⟩, _ | ⟨z, zs⟩⟩⟩
  · exact r.elim
  · exact r.2.2.elim
  · obtain ⟨e1, r1, e2, r2, _⟩ := r
    subst e1 e2
    exact ⟨v, w, rfl, r1, r2⟩
  · exact r.2.2.2.2.elim
theorem op_ne3 {n1 n2 k1 k2 : Nat} {ns : List Int} {ka kb : Str} {a b : Int} {z : Bool} (h1 : H[n1]? = some (.list (ns.map .int))) (h2 : H[n2]? = some (.list (ns.map .int))) (h3 : H[k1]? = some (.dictS [(ka, .int a), (kb, .int b)])) (h4 : H[k2]? = some (.dictS [(ka, .int a), (kb, .int b)]))
    (hk : ka ≠ kb) (n12 : n1 ≠ n2) (k12 : k1 ≠ k2) (hq : Q (.bool false) H) : Op2 c (compareOp .NotEq) (.tup [.ref n1, .ref k1, .bool z]) (.tup [.ref n2, .ref k2, .bool z]) H Q XO := fun A ρ s pa pb ak st va vb => by
  obtain ⟨vs, T, rfl, ht, hl, hg⟩ := va.tup_inv
  obtain ⟨us, U, rfl, hu, ul, ug⟩ := vb.tup_inv
  obtain ⟨v1, v2, v3, rfl⟩ := len3 hl.symm
  obtain ⟨u1, u2, u3, rfl⟩ := len3 ul.symm
  obtain ⟨q1, rfl, e1⟩ := (hg 0 _ _ rfl rfl).ref_inv
  obtain ⟨p1, rfl, f1⟩ := (hg 1 _ _ rfl rfl).ref_inv
  obtain ⟨q2, rfl, e2⟩ := (ug 0 _ _ rfl rfl).ref_inv
  obtain ⟨p2, rfl, f2⟩ := (ug 1 _ _ rfl rfl).ref_inv
  obtain rfl := (hg 2 _ _ rfl rfl).bool_inv
  obtain rfl := (ug 2 _ _ rfl rfl).bool_inv
  obtain ⟨_, ws1, j1, g1, r1⟩ := st.ref h1 e1
  obtain ⟨_, ws2, j2, g2, r2⟩ := st.ref h2 e2
  obtain ⟨_, kvs1, d1, s1⟩ := st.ref h3 f1
  obtain ⟨_, kvs2, d2, s2⟩ := st.ref h4 f2
  have hun := ak.uni
  have hcl := cLine_is
  obtain ⟨⟨oc, od, odt, osl⟩, ho, hc, no, hd⟩ := id ht
  obtain ⟨⟨oc2, od2, odt2, osl2⟩, ho2, hc2, no2, hd2⟩ := id hu
  simp only at hc hd hc2 hd2
  subst hc hd hc2 hd2
  refine wpAny_richCompare_same_room (op := .NotEq) (T := "tuple") ⟨_, ho, rfl⟩ ⟨_, ho2, rfl⟩ PySem.F.slot_tuple_ne (wpAny_call_entry PySem.F.slot_tuple_ne ⟨_, ho, rfl⟩ PySem.F.entry_tuple_ne ?_ (PySem.F.args_tuple_ne_2 _ _)) (by lia)
  refine tuple_ne_all (by simp) ho ho2 (fun j h1 h2 => ?_) ⟨_, rfl, (fun x => nomatch x), ⟨ρ, H, .bool false, Step.refl, st, .bool false, hq⟩⟩
  have hj : j = 0 ∨ j = 1 ∨ j = 2 := by simp at h1; lia
  rcases hj with rfl | rfl | rfl
  ·
    have := keq_ints (A := A) g1.isList (ints_are r1) g2.isList (ints_are r2) (by show A.units + 1 + 64 < cLine; lia)
    exact EqW.of (by simpa using this)
  ·
    show EqW _ _ A.in1 s (.ref p1.1) (.ref p2.1)
    by_cases hp : p1.1 = p2.1
    · rw [hp]; exact EqW.of (SeqAt.EqAt.same _)
    intro E Q hq
    unfold eqBool
    refine wpAny_holding ?_
    refine wpAny_ite_split (fun hab => absurd (by have := eq_of_beq hab; injection this) hp) (fun _ => ?_)
    refine wpAny_bind ?_
    obtain ⟨y1, y2, rfl, s11, s12⟩ := s1.two
    obtain ⟨y3, y4, rfl, s21, s22⟩ := s2.two
    obtain ⟨t1, rfl⟩ := s11.int_inv
    obtain ⟨t2, rfl⟩ := s12.int_inv
    obtain ⟨t3, rfl⟩ := s21.int_inv
    obtain ⟨t4, rfl⟩ := s22.int_inv
    refine keq_eq (knd := PySem.strKind c.B.prog c.B.w) (r := true) (addr_ne st (List.mem_of_getElem? f1)) (addr_ne st (List.mem_of_getElem? f2)) d1 d2 (by show A.units + 1 < cLine; lia) (fun _ => ?_) (wpAny_truthy_bool (by simpa using hq))
    refine .hit (e := true) (b := true) (y := .int a t3) ?_ ?_ (.hit (e := true) (b := true) (y := .int b t4) ?_ ?_ .nil)
    · simp [valueAt]
    · have := SeqAt.EqAt.int_int (A := A.in1.in1) (s := s) a t1 a t3
      simpa using this
    · simp [valueAt, hk]
    · have := SeqAt.EqAt.int_int (A := A.in1.in1) (s := s) b t2 b t4
      simpa using this
  ·
    have := SeqAt.EqAt.bool_bool (A := A.in1) (s := s) z z
    exact EqW.of (by simpa using this)
end
/-! ### PV -/
section
variable {c : Cx} {fa : FrA} {m : LM} {H : HA} {Q : V → HA → Prop} {X : Addr → LM → HA → Prop}
noncomputable abbrev ChnK3 (c : Cx) (fa : FrA) (r₂ : Expr) (op₂ : CmpOp) (m : LM) (y : V) (Q : V → HA → Prop) (X : Addr → LM → HA → Prop) : V → HA → Prop := fun v H3 => match v with
  | .bool b => if b then EvW c fa r₂ m H3 (BinK2 c m (compareOp op₂) Q X y) X else Q (.bool false) H3
  | _ => False
theorem ChnK3.inv {c : Cx} {fa : FrA} {r₂ : Expr} {op₂ : CmpOp} {m : LM} {y : V} {Q : V → HA → Prop} {X : Addr → LM → HA → Prop} {v : V} {H3 : HA} (h : ChnK3 c fa r₂ op₂ m y Q X v H3) : ∃ b : Bool, v = .bool b ∧ if b then EvW c fa r₂ m H3 (BinK2 c m (compareOp op₂) Q X y) X else Q (.bool false) H3 := by
  cases v <;> first | exact h.elim | exact ⟨_, rfl, h⟩
noncomputable abbrev ChnK2 (c : Cx) (fa : FrA) (r₂ : Expr) (op₁ op₂ : CmpOp) (m : LM) (x : V) (Q : V → HA → Prop) (X : Addr → LM → HA → Prop) : V → HA → Prop := fun y H2 => Op2 c (compareOp op₁) x y H2 (ChnK3 c fa r₂ op₂ m y Q X) (ofO X m)
noncomputable abbrev ChnK (c : Cx) (fa : FrA) (r₁ r₂ : Expr) (op₁ op₂ : CmpOp) (m : LM) (Q : V → HA → Prop) (X : Addr → LM → HA → Prop) : V → HA → Prop := fun x H1 => EvW c fa r₁ m H1 (ChnK2 c fa r₂ op₁ op₂ m x Q X) X
theorem ev_chain {l r₁ r₂ : Expr} {op₁ op₂ : CmpOp} {pos : Pos} (h : EvW c fa l m H (ChnK c fa r₁ r₂ op₁ op₂ m Q X) X)
    (hm : lastMarks [op₁, op₂] [r₁, r₂] = false := by with_unfolding_all rfl) : EvW c fa (.Compare l [op₁, op₂] [r₁, r₂] pos) m H Q X := fun A env L ρ s k => by
  refine Compare_chain (wpAny_mono (h A env L ρ s k) ?_ fun _ _ r => r) hm
  rintro a s₁ ⟨ρ₁, H₁, x, x1, st1, l1, vx, h1⟩
  have k1 := k.next x1 st1 l1
  refine chain_link (wpAny_mono (h1 A env L ρ₁ s₁ k1) ?_ fun _ _ r => r.after x1)
  rintro b s₂ ⟨ρ₂, H₂, y, x2, st2, l2, vy, h2⟩
  have k2 := k1.next x2 st2 l2
  refine wpAny_mono (op_in k2 (h2 A ρ₂ s₂ a b k2.ak st2 (vx.mono st1 l1.lx x2) vy)) ?_ fun _ _ r => r.after (x1.trans x2)
  rintro pv s₃ ⟨ρ₃, H₃, v, x3, st3, l3, v3, q⟩
  have k3 := k2.next x3 st3 l3
  obtain ⟨t, rfl, q⟩ := ChnK3.inv q
  obtain rfl := v3.bool_inv
  ·
    refine wpAny_truthy_bool ?_
    cases t
    · exact ⟨ρ₃, H₃, .bool false, (x1.trans x2).trans x3, st3, l3, .bool false, q⟩
    · refine chain_last (wpAny_mono (q A env L ρ₃ s₃ k3) ?_ fun _ _ r => r.after ((x1.trans x2).trans x3))
      rintro d s₄ ⟨ρ₄, H₄, z, x4, st4, l4, vz, h4⟩
      have k4 := k3.next x4 st4 l4
      exact wpAny_mono (op_in k4 (h4 A ρ₄ s₄ b d k4.ak st4 ((vy.mono st2 l2.lx x3).mono st3 l3.lx x4) vz)) (fun _ _ r => r.after (((x1.trans x2).trans x3).trans x4)) fun _ _ r => r.after (((x1.trans x2).trans x3).trans x4)
theorem op_not {b : Bool} {XO : Addr → HA → Prop} (hq : Q (.bool (!b)) H) : Op1 c (unaryOp .Not) (.bool b) H Q XO := fun A ρ s a ak st va => by
  obtain rfl := va.bool_inv
  exact not_of (wpAny_truthy_bool ⟨ρ, H, _, Step.refl, st, .bool _, hq⟩)
theorem keep_G {f : Addr} {K : Frag} (hK : c.B.K = K) (hk : keepIn K (.ref f) = true) : CalleeOk c (.glob f) H := keep_K (by rw [hK]; exact hk)
end
/-! ### KT -/
noncomputable def t_ (i : Nat) : Stmt := (PySem.Challenge.pw_pq0150_01.main.body[i]?).getD default
noncomputable def u_ (i j : Nat) : Stmt := match t_ i with
  | .ClassDef _ _ _ b .. => (b[j]?).getD default
  | _ => default
noncomputable def fn_ (s : Stmt) (q : Str) (md cd df ct : Value) (cl : List (Str × Nat)) : Obj := match s with
  | .FunctionDef n ps b _ _ _ sc _ _ _ => { cls := .type "function", data := .func { name := n, qualname := q, params := ps, body := .stmts b, scope := sc, globals := 3, closure := cl, defaults := df, kwdefaults := .none, pyModule := md, code := cd, closureTuple := ct } }
  | _ => default
noncomputable abbrev n0 : Value := .none
noncomputable abbrev s_ (s : Str) (t : Nat) : Value := .str s t
noncomputable abbrev r_ (a : Nat) : Value := .ref a
noncomputable def tu_ (vs : List Value) : Obj := { cls := .type "tuple", data := .seq vs.toArray }
noncomputable def ce_ (v : Value) : Obj := { cls := .type "cell", data := .cell (some v) }
noncomputable def fi_ (t : String) (vs : List Value) : Obj := { cls := .type t, data := .fields vs.toArray }
noncomputable def e_ (P : Params) (s : Str) (t : Nat) (v : Value) : DictEntry := ⟨PyData.keyHash P s, .str s t, v⟩
noncomputable def di_ (n : Nat) (es : List DictEntry) : Obj := { cls := .type "dict", data := .dict es.toArray n }
noncomputable def dn_ (n : Nat) (es : List DictEntry) : Obj := { cls := .none, data := .dict es.toArray n }
noncomputable def cl_ (n : Str) (bs ms : List Value) (ns : Nat) (sl : List (Option Value)) : Obj := { cls := .type "type", data := .cls { name := n, bases := bs, mro := ms, ns := ns, qualname := n }, slots := sl.toArray }
noncomputable def KK (P : Params) : Frag :=
  (nat_lit 2, dn_ 2 [e_ P "type.__subclasses__.Exception.0" 223 (.int 34 0), e_ P "type.__subclasses__.Exception.n" 224 (.int 1 0)]) ::
  (nat_lit 3, di_ 87 [e_ P "__name__" 165 (s_ "law_pq0150_01" 1119), e_ P "__doc__" 166 n0, e_ P "__package__" 167 n0, e_ P "__loader__" 168 (.builtin "__main__.__loader__#opaque"), e_ P "__spec__" 169 n0, e_ P "__annotations__" 170 (r_ 6), e_ P "__builtins__" 171 (r_ 4), e_ P "__file__" 173 (s_ "/claim/cut.py" 172), e_ P "__cached__" 174 n0, e_ P "MOST_TEXT" 190 (.int 255 189), e_ P "MOST_EXPONENT" 192 (.int 99 191), e_ P "BasicError" 226 (r_ 34), e_ P "kind_of" 233 (r_ 44), e_ P "figures_of" 242 (r_ 51), e_ P "rounded_by" 253 (r_ 58), e_ P "made" 265 (r_ 65), e_ P "whole_near" 275 (r_ 72), e_ P "fits" 283 (r_ 79), e_ P "whole_of" 292 (r_ 86), e_ P "decimal_of" 300 (r_ 93), e_ P "checked_text" 307 (r_ 100), e_ P "is_nought" 314 (r_ 107), e_ P "is_true" 321 (r_ 114), e_ P "truth" 328 (r_ 121), e_ P "ONE" 333 (r_ 122), e_ P "MOST_POWER" 335 (.int 9999 334), e_ P "d_negated" 342 (r_ 129), e_ P "alike" 351 (r_ 136), e_ P "d_add" 363 (r_ 143), e_ P "d_sub" 372 (r_ 150), e_ P "d_mul" 381 (r_ 157), e_ P "with_rest" 390 (r_ 164), e_ P "d_div" 404 (r_ 171), e_ P "d_compare" 415 (r_ 178), e_ P "d_power" 427 (r_ 185), e_ P "square_or_end" 435 (r_ 192), e_ P "is_whole" 444 (r_ 199), e_ P "settled" 453 (r_ 206), e_ P "whole_reckoned" 464 (r_ 213), e_ P "cut_quotient" 473 (r_ 220), e_ P "cut_rest" 481 (r_ 227), e_ P "exponent_of" 488 (r_ 234), e_ P "whole_power" 498 (r_ 241), e_ P "raised" 509 (r_ 248), e_ P "reckoned" 525 (r_ 255), e_ P "negated" 534 (r_ 262), e_ P "order_of" 542 (r_ 269), e_ P "inverted" 550 (r_ 276), e_ P "logic" 562 (r_ 283), e_ P "LOGIC" 570 (r_ 284), e_ P "COMPARISONS" 577 (r_ 285), e_ P "order_of_texts" 585 (r_ 292), e_ P "compared" 593 (r_ 299), e_ P "worth_of_texts" 602 (r_ 306), e_ P "worth_of_two" 608 (r_ 311), e_ P "worth_of_one" 618 (r_ 318), e_ P "worth_of_leaf" 629 (r_ 325), e_ P "LEAVES" 635 (r_ 326), e_ P "RowCode" 666 (r_ 343), e_ P "leaf_order" 675 (r_ 354), e_ P "expression_orders" 688 (r_ 361), e_ P "target_orders" 700 (r_ 368), e_ P "row_orders" 713 (r_ 375), e_ P "led_to" 724 (r_ 382), e_ P "compile_rows" 737 (r_ 389), e_ P "goals_of" 749 (r_ 396), e_ P "moved_orders" 755 (r_ 401), e_ P "known_tests" 769 (r_ 408), e_ P "last_goal" 778 (r_ 415), e_ P "thread_jumps" 787 (r_ 422), e_ P "Flat" 822 (r_ 439), e_ P "put_row_of" 831 (r_ 450), e_ P "put_if" 842 (r_ 457), e_ P "put_all" 852 (r_ 464), e_ P "gather" 868 (r_ 471), e_ P "join_rows" 878 (r_ 478), e_ P "end_loops" 889 (r_ 485), e_ P "flatten" 899 (r_ 492), e_ P "PlainHooks" 981 (r_ 544), e_ P "RowWays" 1020 (r_ 565), e_ P "RowRun" 1118 (r_ 621), e_ P "_law_drawn" 1129 (r_ 632), e_ P "_law_rows" 1142 (r_ 639), e_ P "_law_walk" 1155 (r_ 646), e_ P "_law_begun" 1167 (r_ 653), e_ P "_law_is_ring" 1177 (r_ 660), e_ P "law" 1183 (r_ 665)]) ::
  (nat_lit 15, tu_ [(.type "Exception")]) ::
  (nat_lit 18, ce_ (r_ 34)) ::
  (nat_lit 23, tu_ [(s_ "" 205)]) ::
  (nat_lit 24, tu_ [(r_ 18)]) ::
  (nat_lit 30, fi_ "code" [(s_ "__init__" 206), (s_ "BasicError.__init__" 207), (s_ "/claim/cut.py" 208), (.int 6 0), (.int 3 0), (.int 0 0), (.int 0 0), (.int 3 0), (r_ 25), (.bool true), (.int 181 0), (r_ 26), n0, (r_ 27), (r_ 28), (r_ 29), (.int 213 0), (.int 6 0), (s_ "/claim/cut.py" 214)]) ::
  (nat_lit 31, fn_ (u_ 3 0) "BasicError.__init__" (s_ "basicplus.values" 187) (r_ 30) (r_ 23) (r_ 24) [("__class__", 18)]) ::
  (nat_lit 33, di_ 4 [e_ P "__module__" 200 (s_ "basicplus.values" 187), e_ P "__firstlineno__" 204 (.int 4 203), e_ P "__init__" 215 (r_ 31), e_ P "__static_attributes__" 218 (r_ 32), e_ P "__weakref__" 221 (r_ 35), e_ P "__doc__" 222 n0]) ::
  (nat_lit 34, cl_ "BasicError" [(.type "Exception")] [(r_ 34), (.type "Exception"), (.type "BaseException"), (.type "object")] 33 [some (r_ 15), none, some (s_ "BasicError" 193), some (s_ "BasicError" 201), some (.builtin "Exception.__new__"), some (.bool true)]) ::
  (nat_lit 35, fi_ "getset_descriptor" [(s_ "__weakref__" 220), (r_ 34), (.builtin "ExceptionGroup.__weakref__"), n0]) ::
  (nat_lit 43, fi_ "code" [(s_ "kind_of" 227), (s_ "kind_of" 228), (s_ "/claim/cut.py" 229), (.int 10 0), (.int 1 0), (.int 0 0), (.int 0 0), (.int 3 0), (r_ 38), (.bool true), (.int 181 0), (r_ 39), n0, (r_ 40), (r_ 41), (r_ 42), (.int 231 0), (.int 10 0), (s_ "/claim/cut.py" 232)]) ::
  (nat_lit 44, fn_ (t_ 4) "kind_of" (s_ "basicplus.values" 187) (r_ 43) n0 n0 []) ::
  (nat_lit 78, fi_ "code" [(s_ "fits" 276), (s_ "fits" 277), (s_ "/claim/cut.py" 278), (.int 51 0), (.int 2 0), (.int 0 0), (.int 0 0), (.int 3 0), (r_ 73), (.bool true), (.int 181 0), (r_ 74), n0, (r_ 75), (r_ 76), (r_ 77), (.int 281 0), (.int 51 0), (s_ "/claim/cut.py" 282)]) ::
  (nat_lit 79, fn_ (t_ 9) "fits" (s_ "basicplus.values" 187) (r_ 78) n0 n0 []) ::
  (nat_lit 106, fi_ "code" [(s_ "is_nought" 308), (s_ "is_nought" 309), (s_ "/claim/cut.py" 310), (.int 68 0), (.int 1 0), (.int 0 0), (.int 0 0), (.int 3 0), (r_ 101), (.bool true), (.int 181 0), (r_ 102), n0, (r_ 103), (r_ 104), (r_ 105), (.int 312 0), (.int 68 0), (s_ "/claim/cut.py" 313)]) ::
  (nat_lit 107, fn_ (t_ 13) "is_nought" (s_ "basicplus.values" 187) (r_ 106) n0 n0 []) ::
  (nat_lit 113, fi_ "code" [(s_ "is_true" 315), (s_ "is_true" 316), (s_ "/claim/cut.py" 317), (.int 72 0), (.int 1 0), (.int 0 0), (.int 0 0), (.int 3 0), (r_ 108), (.bool true), (.int 181 0), (r_ 109), n0, (r_ 110), (r_ 111), (r_ 112), (.int 319 0), (.int 72 0), (s_ "/claim/cut.py" 320)]) ::
  (nat_lit 114, fn_ (t_ 14) "is_true" (s_ "basicplus.values" 187) (r_ 113) n0 n0 []) ::
  (nat_lit 120, fi_ "code" [(s_ "truth" 322), (s_ "truth" 323), (s_ "/claim/cut.py" 324), (.int 74 0), (.int 1 0), (.int 0 0), (.int 0 0), (.int 3 0), (r_ 115), (.bool true), (.int 181 0), (r_ 116), n0, (r_ 117), (r_ 118), (r_ 119), (.int 326 0), (.int 74 0), (s_ "/claim/cut.py" 327)]) ::
  (nat_lit 121, fn_ (t_ 15) "truth" (s_ "basicplus.values" 187) (r_ 120) n0 n0 []) ::
  (nat_lit 122, tu_ [(.int 1 331), (.int 0 332)]) ::
  (nat_lit 198, fi_ "code" [(s_ "is_whole" 438), (s_ "is_whole" 439), (s_ "/claim/cut.py" 440), (.int 121 0), (.int 1 0), (.int 0 0), (.int 0 0), (.int 3 0), (r_ 193), (.bool true), (.int 181 0), (r_ 194), n0, (r_ 195), (r_ 196), (r_ 197), (.int 442 0), (.int 121 0), (s_ "/claim/cut.py" 443)]) ::
  (nat_lit 199, fn_ (t_ 30) "is_whole" (s_ "basicplus.arith" 436) (r_ 198) n0 n0 []) ::
  (nat_lit 205, fi_ "code" [(s_ "settled" 445), (s_ "settled" 446), (s_ "/claim/cut.py" 447), (.int 125 0), (.int 3 0), (.int 0 0), (.int 0 0), (.int 3 0), (r_ 200), (.bool true), (.int 181 0), (r_ 201), n0, (r_ 202), (r_ 203), (r_ 204), (.int 451 0), (.int 125 0), (s_ "/claim/cut.py" 452)]) ::
  (nat_lit 206, fn_ (t_ 31) "settled" (s_ "basicplus.arith" 436) (r_ 205) n0 n0 []) ::
  (nat_lit 212, fi_ "code" [(s_ "whole_reckoned" 454), (s_ "whole_reckoned" 455), (s_ "/claim/cut.py" 456), (.int 127 0), (.int 5 0), (.int 0 0), (.int 0 0), (.int 3 0), (r_ 207), (.bool true), (.int 181 0), (r_ 208), n0, (r_ 209), (r_ 210), (r_ 211), (.int 462 0), (.int 127 0), (s_ "/claim/cut.py" 463)]) ::
  (nat_lit 213, fn_ (t_ 32) "whole_reckoned" (s_ "basicplus.arith" 436) (r_ 212) n0 n0 []) ::
  (nat_lit 254, fi_ "code" [(s_ "reckoned" 510), (s_ "reckoned" 511), (s_ "/claim/cut.py" 512), (.int 155 0), (.int 5 0), (.int 0 0), (.int 0 0), (.int 3 0), (r_ 249), (.bool true), (.int 181 0), (r_ 250), n0, (r_ 251), (r_ 252), (r_ 253), (.int 523 0), (.int 155 0), (s_ "/claim/cut.py" 524)]) ::
  (nat_lit 255, fn_ (t_ 38) "reckoned" (s_ "basicplus.arith" 436) (r_ 254) n0 n0 []) ::
  (nat_lit 268, fi_ "code" [(s_ "order_of" 535), (s_ "order_of" 536), (s_ "/claim/cut.py" 537), (.int 172 0), (.int 2 0), (.int 0 0), (.int 0 0), (.int 3 0), (r_ 263), (.bool true), (.int 181 0), (r_ 264), n0, (r_ 265), (r_ 266), (r_ 267), (.int 540 0), (.int 172 0), (s_ "/claim/cut.py" 541)]) ::
  (nat_lit 269, fn_ (t_ 40) "order_of" (s_ "basicplus.arith" 436) (r_ 268) n0 n0 []) ::
  (nat_lit 284, tu_ [(s_ "AND" 565), (s_ "OR" 566), (s_ "XOR" 567), (s_ "EQV" 568), (s_ "IMP" 569)]) ::
  (nat_lit 285, tu_ [(s_ "=" 571), (s_ "<>" 572), (s_ "<" 573), (s_ ">" 574), (s_ "<=" 575), (s_ ">=" 576)]) ::
  (nat_lit 298, fi_ "code" [(s_ "compared" 586), (s_ "compared" 587), (s_ "/claim/cut.py" 588), (.int 194 0), (.int 2 0), (.int 0 0), (.int 0 0), (.int 3 0), (r_ 293), (.bool true), (.int 181 0), (r_ 294), n0, (r_ 295), (r_ 296), (r_ 297), (.int 591 0), (.int 194 0), (s_ "/claim/cut.py" 592)]) ::
  (nat_lit 299, fn_ (t_ 47) "compared" (s_ "basicplus.worth" 563) (r_ 298) n0 n0 []) ::
  (nat_lit 310, fi_ "code" [(s_ "worth_of_two" 603), (s_ "worth_of_two" 604), (s_ "/claim/cut.py" 605), (.int 206 0), (.int 5 0), (.int 0 0), (.int 0 0), (.int 3 0), (r_ 307), (.bool true), (.int 181 0), (r_ 308), n0, n0, n0, (r_ 309), (.int 606 0), (.int 206 0), (s_ "/claim/cut.py" 607)]) ::
  (nat_lit 311, fn_ (t_ 49) "worth_of_two" (s_ "basicplus.worth" 563) (r_ 310) n0 n0 []) ::
  (nat_lit 324, fi_ "code" [(s_ "worth_of_leaf" 619), (s_ "worth_of_leaf" 620), (s_ "/claim/cut.py" 621), (.int 221 0), (.int 3 0), (.int 0 0), (.int 0 0), (.int 3 0), (r_ 319), (.bool true), (.int 181 0), (r_ 320), n0, (r_ 321), (r_ 322), (r_ 323), (.int 627 0), (.int 221 0), (s_ "/claim/cut.py" 628)]) ::
  (nat_lit 325, fn_ (t_ 51) "worth_of_leaf" (s_ "basicplus.worth" 563) (r_ 324) n0 n0 []) ::
  (nat_lit 326, tu_ [(s_ "whole" 632), (s_ "decimal" 633), (s_ "text" 634)]) ::
  (nat_lit 339, fi_ "code" [(s_ "__init__" 648), (s_ "RowCode.__init__" 649), (s_ "/claim/cut.py" 650), (.int 230 0), (.int 3 0), (.int 0 0), (.int 0 0), (.int 3 0), (r_ 334), (.bool true), (.int 181 0), (r_ 335), n0, (r_ 336), (r_ 337), (r_ 338), (.int 654 0), (.int 230 0), (s_ "/claim/cut.py" 655)]) ::
  (nat_lit 340, fn_ (u_ 54 0) "RowCode.__init__" (s_ "basicplus.rowcode" 630) (r_ 339) n0 n0 []) ::
  (nat_lit 342, di_ 4 [e_ P "__module__" 643 (s_ "basicplus.rowcode" 630), e_ P "__firstlineno__" 647 (.int 228 646), e_ P "__init__" 656 (r_ 340), e_ P "__static_attributes__" 659 (r_ 341), e_ P "__dict__" 661 (r_ 344), e_ P "__weakref__" 663 (r_ 345), e_ P "__doc__" 664 n0]) ::
  (nat_lit 343, cl_ "RowCode" [(.type "object")] [(r_ 343), (.type "object")] 342 [none, none, some (s_ "RowCode" 636), some (s_ "RowCode" 644), some (.builtin "object.__new__"), some (.bool true)]) ::
  (nat_lit 344, fi_ "getset_descriptor" [(s_ "__dict__" 660), (r_ 343), (.builtin "function.__dict__"), (.builtin "function.__dict__#set")]) ::
  (nat_lit 345, fi_ "getset_descriptor" [(s_ "__weakref__" 662), (r_ 343), (.builtin "ExceptionGroup.__weakref__"), n0]) ::
  (nat_lit 353, fi_ "code" [(s_ "leaf_order" 667), (s_ "leaf_order" 668), (s_ "/claim/cut.py" 669), (.int 233 0), (.int 3 0), (.int 0 0), (.int 0 0), (.int 3 0), (r_ 348), (.bool true), (.int 181 0), (r_ 349), n0, (r_ 350), (r_ 351), (r_ 352), (.int 673 0), (.int 233 0), (s_ "/claim/cut.py" 674)]) ::
  (nat_lit 354, fn_ (t_ 55) "leaf_order" (s_ "basicplus.rowcode" 630) (r_ 353) n0 n0 []) ::
  (nat_lit 360, fi_ "code" [(s_ "expression_orders" 676), (s_ "expression_orders" 677), (s_ "/claim/cut.py" 678), (.int 238 0), (.int 3 0), (.int 0 0), (.int 0 0), (.int 3 0), (r_ 355), (.bool true), (.int 181 0), (r_ 356), n0, (r_ 357), (r_ 358), (r_ 359), (.int 686 0), (.int 238 0), (s_ "/claim/cut.py" 687)]) ::
  (nat_lit 361, fn_ (t_ 56) "expression_orders" (s_ "basicplus.rowcode" 630) (r_ 360) n0 n0 []) ::
  (nat_lit 367, fi_ "code" [(s_ "target_orders" 689), (s_ "target_orders" 690), (s_ "/claim/cut.py" 691), (.int 258 0), (.int 4 0), (.int 0 0), (.int 0 0), (.int 3 0), (r_ 362), (.bool true), (.int 181 0), (r_ 363), n0, (r_ 364), (r_ 365), (r_ 366), (.int 698 0), (.int 258 0), (s_ "/claim/cut.py" 699)]) ::
  (nat_lit 368, fn_ (t_ 57) "target_orders" (s_ "basicplus.rowcode" 630) (r_ 367) n0 n0 []) ::
  (nat_lit 374, fi_ "code" [(s_ "row_orders" 701), (s_ "row_orders" 702), (s_ "/claim/cut.py" 703), (.int 265 0), (.int 4 0), (.int 0 0), (.int 0 0), (.int 3 0), (r_ 369), (.bool true), (.int 181 0), (r_ 370), n0, (r_ 371), (r_ 372), (r_ 373), (.int 711 0), (.int 265 0), (s_ "/claim/cut.py" 712)]) ::
  (nat_lit 375, fn_ (t_ 58) "row_orders" (s_ "basicplus.rowcode" 630) (r_ 374) n0 n0 []) ::
  (nat_lit 381, fi_ "code" [(s_ "led_to" 714), (s_ "led_to" 715), (s_ "/claim/cut.py" 716), (.int 279 0), (.int 3 0), (.int 0 0), (.int 0 0), (.int 3 0), (r_ 376), (.bool true), (.int 181 0), (r_ 377), n0, (r_ 378), (r_ 379), (r_ 380), (.int 722 0), (.int 279 0), (s_ "/claim/cut.py" 723)]) ::
  (nat_lit 382, fn_ (t_ 59) "led_to" (s_ "basicplus.rowcode" 630) (r_ 381) n0 n0 []) ::
  (nat_lit 388, fi_ "code" [(s_ "compile_rows" 725), (s_ "compile_rows" 726), (s_ "/claim/cut.py" 727), (.int 286 0), (.int 3 0), (.int 0 0), (.int 0 0), (.int 3 0), (r_ 383), (.bool true), (.int 181 0), (r_ 384), n0, (r_ 385), (r_ 386), (r_ 387), (.int 735 0), (.int 286 0), (s_ "/claim/cut.py" 736)]) ::
  (nat_lit 389, fn_ (t_ 60) "compile_rows" (s_ "basicplus.rowcode" 630) (r_ 388) n0 n0 []) ::
  (nat_lit 395, fi_ "code" [(s_ "goals_of" 740), (s_ "goals_of" 741), (s_ "/claim/cut.py" 742), (.int 294 0), (.int 1 0), (.int 0 0), (.int 0 0), (.int 3 0), (r_ 390), (.bool true), (.int 181 0), (r_ 391), n0, (r_ 392), (r_ 393), (r_ 394), (.int 747 0), (.int 294 0), (s_ "/claim/cut.py" 748)]) ::
  (nat_lit 396, fn_ (t_ 62) "goals_of" (s_ "basicplus.passes" 738) (r_ 395) n0 n0 []) ::
  (nat_lit 400, fi_ "code" [(s_ "moved_orders" 750), (s_ "moved_orders" 751), (s_ "/claim/cut.py" 752), (.int 302 0), (.int 3 0), (.int 0 0), (.int 0 0), (.int 3 0), (r_ 397), (.bool true), (.int 181 0), (r_ 398), n0, n0, n0, (r_ 399), (.int 753 0), (.int 302 0), (s_ "/claim/cut.py" 754)]) ::
  (nat_lit 401, fn_ (t_ 63) "moved_orders" (s_ "basicplus.passes" 738) (r_ 400) n0 n0 []) ::
  (nat_lit 407, fi_ "code" [(s_ "known_tests" 756), (s_ "known_tests" 757), (s_ "/claim/cut.py" 758), (.int 309 0), (.int 1 0), (.int 0 0), (.int 0 0), (.int 3 0), (r_ 402), (.bool true), (.int 181 0), (r_ 403), n0, (r_ 404), (r_ 405), (r_ 406), (.int 767 0), (.int 309 0), (s_ "/claim/cut.py" 768)]) ::
  (nat_lit 408, fn_ (t_ 64) "known_tests" (s_ "basicplus.passes" 738) (r_ 407) n0 n0 []) ::
  (nat_lit 414, fi_ "code" [(s_ "last_goal" 770), (s_ "last_goal" 771), (s_ "/claim/cut.py" 772), (.int 323 0), (.int 2 0), (.int 0 0), (.int 0 0), (.int 3 0), (r_ 409), (.bool true), (.int 181 0), (r_ 410), n0, (r_ 411), (r_ 412), (r_ 413), (.int 776 0), (.int 323 0), (s_ "/claim/cut.py" 777)]) ::
  (nat_lit 415, fn_ (t_ 65) "last_goal" (s_ "basicplus.passes" 738) (r_ 414) n0 n0 []) ::
  (nat_lit 421, fi_ "code" [(s_ "thread_jumps" 779), (s_ "thread_jumps" 780), (s_ "/claim/cut.py" 781), (.int 329 0), (.int 1 0), (.int 0 0), (.int 0 0), (.int 3 0), (r_ 416), (.bool true), (.int 181 0), (r_ 417), n0, (r_ 418), (r_ 419), (r_ 420), (.int 785 0), (.int 329 0), (s_ "/claim/cut.py" 786)]) ::
  (nat_lit 422, fn_ (t_ 66) "thread_jumps" (s_ "basicplus.passes" 738) (r_ 421) n0 n0 []) ::
  (nat_lit 435, fi_ "code" [(s_ "__init__" 802), (s_ "Flat.__init__" 803), (s_ "/claim/cut.py" 804), (.int 339 0), (.int 1 0), (.int 0 0), (.int 0 0), (.int 3 0), (r_ 430), (.bool true), (.int 181 0), (r_ 431), n0, (r_ 432), (r_ 433), (r_ 434), (.int 806 0), (.int 339 0), (s_ "/claim/cut.py" 807)]) ::
  (nat_lit 436, fn_ (u_ 68 0) "Flat.__init__" (s_ "basicplus.flatten" 788) (r_ 435) n0 n0 []) ::
  (nat_lit 438, di_ 4 [e_ P "__module__" 797 (s_ "basicplus.flatten" 788), e_ P "__firstlineno__" 801 (.int 337 800), e_ P "__init__" 808 (r_ 436), e_ P "__static_attributes__" 815 (r_ 437), e_ P "__dict__" 817 (r_ 440), e_ P "__weakref__" 819 (r_ 441), e_ P "__doc__" 820 n0]) ::
  (nat_lit 439, cl_ "Flat" [(.type "object")] [(r_ 439), (.type "object")] 438 [none, none, some (s_ "Flat" 790), some (s_ "Flat" 798), some (.builtin "object.__new__"), some (.bool true)]) ::
  (nat_lit 440, fi_ "getset_descriptor" [(s_ "__dict__" 816), (r_ 439), (.builtin "function.__dict__"), (.builtin "function.__dict__#set")]) ::
  (nat_lit 441, fi_ "getset_descriptor" [(s_ "__weakref__" 818), (r_ 439), (.builtin "ExceptionGroup.__weakref__"), n0]) ::
  (nat_lit 449, fi_ "code" [(s_ "put_row_of" 823), (s_ "put_row_of" 824), (s_ "/claim/cut.py" 825), (.int 346 0), (.int 3 0), (.int 0 0), (.int 0 0), (.int 3 0), (r_ 444), (.bool true), (.int 181 0), (r_ 445), n0, (r_ 446), (r_ 447), (r_ 448), (.int 829 0), (.int 346 0), (s_ "/claim/cut.py" 830)]) ::
  (nat_lit 450, fn_ (t_ 69) "put_row_of" (s_ "basicplus.flatten" 788) (r_ 449) n0 n0 []) ::
  (nat_lit 463, fi_ "code" [(s_ "put_all" 843), (s_ "put_all" 844), (s_ "/claim/cut.py" 845), (.int 359 0), (.int 3 0), (.int 0 0), (.int 0 0), (.int 3 0), (r_ 458), (.bool true), (.int 181 0), (r_ 459), n0, (r_ 460), (r_ 461), (r_ 462), (.int 850 0), (.int 359 0), (s_ "/claim/cut.py" 851)]) ::
  (nat_lit 464, fn_ (t_ 71) "put_all" (s_ "basicplus.flatten" 788) (r_ 463) n0 n0 []) ::
  (nat_lit 470, fi_ "code" [(s_ "gather" 853), (s_ "gather" 854), (s_ "/claim/cut.py" 855), (.int 365 0), (.int 1 0), (.int 0 0), (.int 0 0), (.int 3 0), (r_ 465), (.bool true), (.int 181 0), (r_ 466), n0, (r_ 467), (r_ 468), (r_ 469), (.int 866 0), (.int 365 0), (s_ "/claim/cut.py" 867)]) ::
  (nat_lit 471, fn_ (t_ 72) "gather" (s_ "basicplus.flatten" 788) (r_ 470) n0 n0 []) ::
  (nat_lit 491, fi_ "code" [(s_ "flatten" 890), (s_ "flatten" 891), (s_ "/claim/cut.py" 892), (.int 396 0), (.int 1 0), (.int 0 0), (.int 0 0), (.int 3 0), (r_ 486), (.bool true), (.int 181 0), (r_ 487), n0, (r_ 488), (r_ 489), (r_ 490), (.int 897 0), (.int 396 0), (s_ "/claim/cut.py" 898)]) ::
  (nat_lit 492, fn_ (t_ 75) "flatten" (s_ "basicplus.flatten" 788) (r_ 491) n0 n0 []) ::
  (nat_lit 505, fi_ "code" [(s_ "__init__" 914), (s_ "PlainHooks.__init__" 915), (s_ "/claim/cut.py" 916), (.int 408 0), (.int 4 0), (.int 0 0), (.int 0 0), (.int 3 0), (r_ 500), (.bool true), (.int 181 0), (r_ 501), n0, (r_ 502), (r_ 503), (r_ 504), (.int 921 0), (.int 408 0), (s_ "/claim/cut.py" 922)]) ::
  (nat_lit 506, fn_ (u_ 77 0) "PlainHooks.__init__" (s_ "basicplus.hooks" 900) (r_ 505) n0 n0 []) ::
  (nat_lit 512, fi_ "code" [(s_ "value_of_name" 924), (s_ "PlainHooks.value_of_name" 925), (s_ "/claim/cut.py" 926), (.int 414 0), (.int 2 0), (.int 0 0), (.int 0 0), (.int 3 0), (r_ 507), (.bool true), (.int 181 0), (r_ 508), n0, (r_ 509), (r_ 510), (r_ 511), (.int 929 0), (.int 414 0), (s_ "/claim/cut.py" 930)]) ::
  (nat_lit 513, fn_ (u_ 77 1) "PlainHooks.value_of_name" (s_ "basicplus.hooks" 900) (r_ 512) n0 n0 []) ::
  (nat_lit 543, di_ 4 [e_ P "__module__" 909 (s_ "basicplus.hooks" 900), e_ P "__firstlineno__" 913 (.int 406 912), e_ P "__init__" 923 (r_ 506), e_ P "value_of_name" 931 (r_ 513), e_ P "told" 942 (r_ 520), e_ P "item_of" 951 (r_ 527), e_ P "call" 960 (r_ 534), e_ P "fn" 969 (r_ 541), e_ P "__static_attributes__" 974 (r_ 542), e_ P "__dict__" 976 (r_ 545), e_ P "__weakref__" 978 (r_ 546), e_ P "__doc__" 979 n0]) ::
  (nat_lit 544, cl_ "PlainHooks" [(.type "object")] [(r_ 544), (.type "object")] 543 [none, none, some (s_ "PlainHooks" 902), some (s_ "PlainHooks" 910), some (.builtin "object.__new__"), some (.bool true)]) ::
  (nat_lit 545, fi_ "getset_descriptor" [(s_ "__dict__" 975), (r_ 544), (.builtin "function.__dict__"), (.builtin "function.__dict__#set")]) ::
  (nat_lit 546, fi_ "getset_descriptor" [(s_ "__weakref__" 977), (r_ 544), (.builtin "ExceptionGroup.__weakref__"), n0]) ::
  (nat_lit 561, fi_ "code" [(s_ "__init__" 996), (s_ "RowWays.__init__" 997), (s_ "/claim/cut.py" 998), (.int 438 0), (.int 6 0), (.int 0 0), (.int 0 0), (.int 3 0), (r_ 556), (.bool true), (.int 181 0), (r_ 557), n0, (r_ 558), (r_ 559), (r_ 560), (.int 1005 0), (.int 438 0), (s_ "/claim/cut.py" 1006)]) ::
  (nat_lit 562, fn_ (u_ 79 0) "RowWays.__init__" (s_ "basicplus.rowrun" 982) (r_ 561) n0 n0 []) ::
  (nat_lit 564, di_ 4 [e_ P "__module__" 991 (s_ "basicplus.rowrun" 982), e_ P "__firstlineno__" 995 (.int 436 994), e_ P "__init__" 1007 (r_ 562), e_ P "__static_attributes__" 1013 (r_ 563), e_ P "__dict__" 1015 (r_ 566), e_ P "__weakref__" 1017 (r_ 567), e_ P "__doc__" 1018 n0]) ::
  (nat_lit 565, cl_ "RowWays" [(.type "object")] [(r_ 565), (.type "object")] 564 [none, none, some (s_ "RowWays" 984), some (s_ "RowWays" 992), some (.builtin "object.__new__"), some (.bool true)]) ::
  (nat_lit 566, fi_ "getset_descriptor" [(s_ "__dict__" 1014), (r_ 565), (.builtin "function.__dict__"), (.builtin "function.__dict__#set")]) ::
  (nat_lit 567, fi_ "getset_descriptor" [(s_ "__weakref__" 1016), (r_ 565), (.builtin "ExceptionGroup.__weakref__"), n0]) ::
  (nat_lit 582, fi_ "code" [(s_ "__init__" 1033), (s_ "RowRun.__init__" 1034), (s_ "/claim/cut.py" 1035), (.int 446 0), (.int 7 0), (.int 0 0), (.int 0 0), (.int 3 0), (r_ 577), (.bool true), (.int 181 0), (r_ 578), n0, (r_ 579), (r_ 580), (r_ 581), (.int 1043 0), (.int 446 0), (s_ "/claim/cut.py" 1044)]) ::
  (nat_lit 583, fn_ (u_ 80 0) "RowRun.__init__" (s_ "basicplus.rowrun" 982) (r_ 582) n0 n0 []) ::
  (nat_lit 589, fi_ "code" [(s_ "place_of" 1046), (s_ "RowRun.place_of" 1047), (s_ "/claim/cut.py" 1048), (.int 456 0), (.int 2 0), (.int 0 0), (.int 0 0), (.int 3 0), (r_ 584), (.bool true), (.int 181 0), (r_ 585), n0, (r_ 586), (r_ 587), (r_ 588), (.int 1052 0), (.int 456 0), (s_ "/claim/cut.py" 1053)]) ::
  (nat_lit 590, fn_ (u_ 80 1) "RowRun.place_of" (s_ "basicplus.rowrun" 982) (r_ 589) n0 n0 []) ::
  (nat_lit 596, fi_ "code" [(s_ "taken" 1055), (s_ "RowRun.taken" 1056), (s_ "/claim/cut.py" 1057), (.int 460 0), (.int 2 0), (.int 0 0), (.int 0 0), (.int 3 0), (r_ 591), (.bool true), (.int 181 0), (r_ 592), n0, (r_ 593), (r_ 594), (r_ 595), (.int 1062 0), (.int 460 0), (s_ "/claim/cut.py" 1063)]) ::
  (nat_lit 597, fn_ (u_ 80 2) "RowRun.taken" (s_ "basicplus.rowrun" 982) (r_ 596) n0 n0 []) ::
  (nat_lit 603, fi_ "code" [(s_ "go_from" 1065), (s_ "RowRun.go_from" 1066), (s_ "/claim/cut.py" 1067), (.int 466 0), (.int 2 0), (.int 0 0), (.int 0 0), (.int 3 0), (r_ 598), (.bool true), (.int 181 0), (r_ 599), n0, (r_ 600), (r_ 601), (r_ 602), (.int 1073 0), (.int 466 0), (s_ "/claim/cut.py" 1074)]) ::
  (nat_lit 604, fn_ (u_ 80 3) "RowRun.go_from" (s_ "basicplus.rowrun" 982) (r_ 603) n0 n0 []) ::
  (nat_lit 610, fi_ "code" [(s_ "done" 1076), (s_ "RowRun.done" 1077), (s_ "/claim/cut.py" 1078), (.int 476 0), (.int 3 0), (.int 0 0), (.int 0 0), (.int 3 0), (r_ 605), (.bool true), (.int 181 0), (r_ 606), n0, (r_ 607), (r_ 608), (r_ 609), (.int 1088 0), (.int 476 0), (s_ "/claim/cut.py" 1089)]) ::
  (nat_lit 611, fn_ (u_ 80 4) "RowRun.done" (s_ "basicplus.rowrun" 982) (r_ 610) n0 n0 []) ::
  (nat_lit 617, fi_ "code" [(s_ "value_of" 1091), (s_ "RowRun.value_of" 1092), (s_ "/claim/cut.py" 1093), (.int 502 0), (.int 2 0), (.int 0 0), (.int 0 0), (.int 3 0), (r_ 612), (.bool true), (.int 181 0), (r_ 613), n0, (r_ 614), (r_ 615), (r_ 616), (.int 1100 0), (.int 502 0), (s_ "/claim/cut.py" 1101)]) ::
  (nat_lit 618, fn_ (u_ 80 5) "RowRun.value_of" (s_ "basicplus.rowrun" 982) (r_ 617) n0 n0 []) ::
  (nat_lit 620, di_ 4 [e_ P "__module__" 1028 (s_ "basicplus.rowrun" 982), e_ P "__firstlineno__" 1032 (.int 444 1031), e_ P "__init__" 1045 (r_ 583), e_ P "place_of" 1054 (r_ 590), e_ P "taken" 1064 (r_ 597), e_ P "go_from" 1075 (r_ 604), e_ P "done" 1090 (r_ 611), e_ P "value_of" 1102 (r_ 618), e_ P "__static_attributes__" 1111 (r_ 619), e_ P "__dict__" 1113 (r_ 622), e_ P "__weakref__" 1115 (r_ 623), e_ P "__doc__" 1116 n0]) ::
  (nat_lit 621, cl_ "RowRun" [(.type "object")] [(r_ 621), (.type "object")] 620 [none, none, some (s_ "RowRun" 1021), some (s_ "RowRun" 1029), some (.builtin "object.__new__"), some (.bool true)]) ::
  (nat_lit 622, fi_ "getset_descriptor" [(s_ "__dict__" 1112), (r_ 621), (.builtin "function.__dict__"), (.builtin "function.__dict__#set")]) ::
  (nat_lit 623, fi_ "getset_descriptor" [(s_ "__weakref__" 1114), (r_ 621), (.builtin "ExceptionGroup.__weakref__"), n0]) ::
  (nat_lit 631, fi_ "code" [(s_ "_law_drawn" 1121), (s_ "_law_drawn" 1122), (s_ "/claim/cut.py" 1123), (.int 523 0), (.int 2 0), (.int 0 0), (.int 0 0), (.int 3 0), (r_ 626), (.bool true), (.int 181 0), (r_ 627), n0, (r_ 628), (r_ 629), (r_ 630), (.int 1127 0), (.int 523 0), (s_ "/claim/cut.py" 1128)]) ::
  (nat_lit 632, fn_ (t_ 82) "_law_drawn" (s_ "law_pq0150_01" 1119) (r_ 631) n0 n0 []) ::
  (nat_lit 638, fi_ "code" [(s_ "_law_rows" 1130), (s_ "_law_rows" 1131), (s_ "/claim/cut.py" 1132), (.int 529 0), (.int 1 0), (.int 0 0), (.int 0 0), (.int 3 0), (r_ 633), (.bool true), (.int 181 0), (r_ 634), n0, (r_ 635), (r_ 636), (r_ 637), (.int 1140 0), (.int 529 0), (s_ "/claim/cut.py" 1141)]) ::
  (nat_lit 639, fn_ (t_ 83) "_law_rows" (s_ "law_pq0150_01" 1119) (r_ 638) n0 n0 []) ::
  (nat_lit 645, fi_ "code" [(s_ "_law_walk" 1143), (s_ "_law_walk" 1144), (s_ "/claim/cut.py" 1145), (.int 543 0), (.int 1 0), (.int 0 0), (.int 0 0), (.int 3 0), (r_ 640), (.bool true), (.int 181 0), (r_ 641), n0, (r_ 642), (r_ 643), (r_ 644), (.int 1153 0), (.int 543 0), (s_ "/claim/cut.py" 1154)]) ::
  (nat_lit 646, fn_ (t_ 84) "_law_walk" (s_ "law_pq0150_01" 1119) (r_ 645) n0 n0 []) ::
  (nat_lit 652, fi_ "code" [(s_ "_law_begun" 1156), (s_ "_law_begun" 1157), (s_ "/claim/cut.py" 1158), (.int 564 0), (.int 1 0), (.int 0 0), (.int 0 0), (.int 3 0), (r_ 647), (.bool true), (.int 181 0), (r_ 648), n0, (r_ 649), (r_ 650), (r_ 651), (.int 1165 0), (.int 564 0), (s_ "/claim/cut.py" 1166)]) ::
  (nat_lit 653, fn_ (t_ 85) "_law_begun" (s_ "law_pq0150_01" 1119) (r_ 652) n0 n0 []) ::
  (nat_lit 659, fi_ "code" [(s_ "_law_is_ring" 1168), (s_ "_law_is_ring" 1169), (s_ "/claim/cut.py" 1170), (.int 582 0), (.int 2 0), (.int 0 0), (.int 0 0), (.int 3 0), (r_ 654), (.bool true), (.int 181 0), (r_ 655), n0, (r_ 656), (r_ 657), (r_ 658), (.int 1175 0), (.int 582 0), (s_ "/claim/cut.py" 1176)]) ::
  (nat_lit 660, fn_ (t_ 86) "_law_is_ring" (s_ "law_pq0150_01" 1119) (r_ 659) n0 n0 []) ::
  (nat_lit 664, fi_ "code" [(s_ "law" 1178), (s_ "law" 1179), (s_ "/claim/cut.py" 1180), (.int 589 0), (.int 1 0), (.int 0 0), (.int 0 0), (.int 3 0), (r_ 661), (.bool true), (.int 181 0), (r_ 662), n0, n0, n0, (r_ 663), (.int 1181 0), (.int 589 0), (s_ "/claim/cut.py" 1182)]) ::
  (nat_lit 665, fn_ (t_ 87) "law" (s_ "law_pq0150_01" 1119) (r_ 664) n0 n0 []) :: []
noncomputable def KA : List Nat := [2, 3, 15, 18, 23, 24, 30, 31, 33, 34, 35, 43, 44, 78, 79, 106, 107, 113, 114, 120, 121, 122, 198, 199, 205, 206, 212, 213, 254, 255, 268, 269, 284, 285, 298, 299, 310, 311, 324, 325, 326, 339, 340, 342, 343, 344, 345, 353, 354, 360, 361, 367, 368, 374, 375, 381, 382, 388, 389, 395, 396, 400, 401, 407, 408, 414, 415, 421, 422, 435, 436, 438, 439, 440, 441, 449, 450, 463, 464, 470, 471, 491, 492, 505, 506, 512, 513, 543, 544, 545, 546, 561, 562, 564, 565, 566, 567, 582, 583, 589, 590, 596, 597, 603, 604, 610, 611, 617, 618, 620, 621, 622, 623, 631, 632, 638, 639, 645, 646, 652, 653, 659, 660, 664, 665]
theorem KA_of (P : Params) : KA = (KK P).map (·.1) := by kernel_rfl
/-! ### HD -/
def runG (thr ok : Thread → Bool) (stp : SharedT → Thread → Option (SharedT × Thread)) : Nat → SharedT → Thread → Option SharedT
  | 0, _, _ => none
  | n + 1, s, t => match thr t with
    | true => some s
    | false => match ok t with
      | false => none
      | true => match stp s t with
        | some (s', t') => runG thr ok stp n s' t'
        | none => none
theorem runG_of {tb : String → Option Builtin} {p : Program} {w : World} {n₀ : Nat} {ann : Option Value} : ∀ {n : Nat} {s s' : SharedT} {t : Thread}, runG through (stepOk n₀ ann) (stepT (denote tb) p w) n s t = some s' → topRun tb p w n₀ ann n s.abs t = some s'.abs
  | 0, _, _, _, h => by cases h
  | n + 1, s, s', t, h => by
    unfold runG at h
    unfold topRun
    cases ht : through t with
    | true => rw [ht] at h; cases h; rfl
    | false =>
      rw [ht] at h
      cases hk : stepOk n₀ ann t with
      | false => rw [hk] at h; cases h
      | true =>
        rw [hk] at h
        cases hs : stepT (denote tb) p w s t with
        | none => rw [hs] at h; cases h
        | some r => obtain ⟨s₂, t₂⟩ := r; rw [hs] at h; rw [stepT_spec hs]; exact runG_of h
theorem left_once {p q : Program} {loose : List Str} {Xt : Shared → Bool} {α : Type} {Yf : Shared → α} {Ya : World → α} {N M m₀ k₀ : Nat} {ann : Option Value} {H₀ : Params → Heap} {gs₀ : Array GenState} {d₀ : Drawn} (S0 : World → OsState → SharedT)
    (open_ : ∀ w : World, (fencedOpening treeTable p w N).map (fun s => (s.heap, s.gens, s.drawn, s.toks)) = some (H₀ w.params, gs₀, d₀, k₀))
    (size : ∀ w : World, ((H₀ w.params).isNs mainGlobals && gs₀.size == 0, (H₀ w.params).objs.size, (H₀ w.params).nsMap mainGlobals "__annotations__") = (true, m₀, ann))
    (s0 : ∀ w os, (⟨H₀ w.params, gs₀, d₀, k₀, os⟩ : Shared) = (S0 w os).abs) (le : Nat.ble M N = true)
    (all : ∀ (w : World) (os : OsState), ∃ z, runG through (stepOk m₀ ann) (stepT (denote treeTable) p w) M (S0 w os) (topStub p) = some z ∧
      (staticsOk (importedModules p.main.body) (H₀ w.params) z.abs.heap && namesBound p z.abs.heap && gensDone z.abs && laidKept (H₀ w.params) z.abs.heap) = true ∧
        openSeen q loose (importedModules p.main.body) Xt true z.abs = openGood q loose ∧ Yf z.abs = Ya w) : LeftO p q loose Xt Yf Ya N true := fun w => by
  obtain ⟨⟨h, gs, d, k, os⟩, e, e'⟩ := Option.map_eq_some_iff.mp (open_ w)
  obtain ⟨rfl, rfl, rfl, rfl⟩ : h = H₀ w.params ∧ gs = gs₀ ∧ d = d₀ ∧ k = k₀ := by simpa using e'
  obtain ⟨z1, z2, z3⟩ : _ ∧ _ ∧ _ := by simpa only [Prod.mk.injEq] using size w
  obtain ⟨z, hz, l1, l2, l3⟩ := all w os
  have r := runG_of hz
  rw [← s0] at r
  have r := topRun_mono (N - M) _ _ _ _ r
  rw [show M + (N - M) = N by have := Nat.le_of_ble_eq_true le; omega] at r
  have t : topFrom treeTable p w N ⟨H₀ w.params, gs, d, k, os⟩ = some z.abs := by
    unfold topFrom
    dsimp only
    rw [z1, z2, z3, r]
    show (match staticsOk (importedModules p.main.body) (H₀ w.params) z.abs.heap && namesBound p z.abs.heap && gensDone z.abs && laidKept (H₀ w.params) z.abs.heap with | true => _ | false => _) = _
    rw [l1]
  unfold openEnds
  rw [e]
  show Option.map _ (topFrom treeTable p w N ⟨H₀ w.params, gs, d, k, os⟩) = _
  rw [t]
  exact congrArg some (Prod.ext l2 l3)
noncomputable def tree0 (P : Params) : BT :=
  .node (boot_o_0 P) (.node (boot_o_1 P) (.node (boot_o_3 P) (.node (boot_o_7 P) .nil .nil) .nil) (.node (boot_o_5 P) (.node (boot_o_9 P) .nil .nil) .nil))
    (.node (boot_o_2 P) (.node (boot_o_4 P) (.node (boot_o_8 P) .nil .nil) .nil) (.node (boot_o_6 P) (.node (boot_o_10 P) .nil .nil) .nil))
noncomputable def st0 (w : World) (os : OsState) : SharedT := ⟨tree0 w.params, 11, (boot_heap w.params).life, #[], boot_drawn, boot_toks, os⟩
theorem st0_abs (w : World) (os : OsState) : (⟨boot_heap w.params, Array.mk [], boot_drawn, boot_toks, os⟩ : Shared) = (st0 w os).abs := by kernel_rfl
theorem size0 (w : World) : ((boot_heap w.params).isNs mainGlobals && (Array.mk [] : Array GenState).size == 0, (boot_heap w.params).objs.size, (boot_heap w.params).nsMap mainGlobals "__annotations__") = (true, 11, some (.ref 6)) := by kernel_rfl
noncomputable abbrev pw : Program := PySem.Challenge.rw_pq0150_01.row.prog
noncomputable def vw : Program := view pw [1, 2, 3, 4, 5, 6, 7, 8, 9, 10, 11, 12, 13, 14, 15, 17, 18, 19, 20, 21, 22, 23, 24, 25, 26, 27, 28, 30, 31, 32, 33, 34, 35, 36, 37, 38, 39, 40, 41, 42, 44, 45, 46, 47, 48, 49, 50, 51, 53, 54, 55, 56, 57, 58, 59, 60, 62, 63, 64, 65, 66, 68, 69, 70, 71, 72, 73, 74, 75, 77, 79, 80, 82, 83, 84, 85, 86, 87]
noncomputable def hk : Hook := kmHook KK KA KA_of [648]
theorem open0 : ∀ w : World, (fencedOpening treeTable pw w 8060).map (fun s => (s.heap, s.gens, s.drawn, s.toks)) = some (boot_heap w.params, Array.mk [], boot_drawn, boot_toks) :=
  boot_open (by kernel_rfl) (by kernel_rfl) (fun s => by kernel_rfl)
noncomputable def topEnd (w : World) (os : OsState) : Option SharedT := runG through (stepOk 11 (some (.ref 6))) (stepT (denote treeTable) pw w) 4200 (st0 w os) (topStub pw)
theorem see0 (w : World) (os : OsState) : (topEnd w os).map (fun z => (seen ((recsOf vw).map (·.name)) (ownsOf vw) [] { z.abs with gens := #[] }, z.abs.heap.bltView, pinSeenD vw (drecsOf vw) z.abs, plainSeenD vw [Str.ofString "BasicError"] z.abs, clsSeenW vw [Str.ofString "BasicError"] z.abs, (staticsOk (importedModules pw.main.body) (boot_heap w.params) z.abs.heap && namesBound pw z.abs.heap && gensDone z.abs && laidKept (boot_heap w.params) z.abs.heap))) = some (expectedOf vw, bltViewBooted, pinGoodD (drecsOf vw), plainGoodD vw [Str.ofString "BasicError"], clsGoodW vw [Str.ofString "BasicError"], true) := by
  unfold topEnd
  rw [PySem.W.Fast.te10156331382660048174, PySem.W.Fast.te11892475500146522536, PySem.W.Fast.te6613529449190102663, PySem.W.Fast.te14364793385576792824, PySem.W.Fast.te5160383126252970620, PySem.W.Fast.te3399658132070893891, PySem.W.Fast.te5991557255702980513, PySem.W.Fast.te16090120013241838585, PySem.W.Fast.te3247288618530077131, PySem.W.Fast.te11698064438423848299, PySem.W.Fast.te7369524293546568484, PySem.W.Fast.te5923862056798008813]
  kernel_rfl
theorem see1 (w : World) (os : OsState) : (topEnd w os).map (fun z => (tabsOk vw z.abs, plainSeenE vw (looseW vw [Str.ofString "BasicError"]) z.abs)) = some (true, plainGoodE vw (looseW vw [Str.ofString "BasicError"])) := by
  unfold topEnd
  rw [PySem.W.Fast.te10156331382660048174, PySem.W.Fast.te11892475500146522536, PySem.W.Fast.te6613529449190102663, PySem.W.Fast.te14364793385576792824, PySem.W.Fast.te479339242167458305, PySem.W.Fast.te2386780881361962483, PySem.W.Fast.te821141287760084731]
  kernel_rfl
theorem see2 (w : World) (os : OsState) : (topEnd w os).map (fun z => (wideSeen vw z.abs, (z.abs.heap.keysOk (looseW vw [Str.ofString "BasicError"]) ((recsOf vw).map (·.name)) ((litsOf vw).map (·.1)) ((clssOf vw (looseW vw [Str.ofString "BasicError"])).map (·.name)) && z.abs.heap.accountedOkI (importedModules pw.main.body) && z.abs.heap.isNs mainGlobals && z.abs.heap.isNs builtinsNs && tablesOk vw z.abs.heap && (xlAt vw [] z.abs && recOk PySem.Challenge.rw_pq0150_01.row.toRowW.records z.abs) && (z.abs.gens.size == 0)), hk.obs z.abs)) = some (wideGood vw, true, hk.val w) := by
  unfold topEnd
  rw [PySem.W.Fast.te10156331382660048174, PySem.W.Fast.te11892475500146522536, PySem.W.Fast.te6613529449190102663, PySem.W.Fast.te14364793385576792824, PySem.W.Fast.te7317090234206586261, PySem.W.Fast.te10880121769531294198, PySem.W.Fast.te821141287760084731, PySem.W.Fast.te3399658132070893891, PySem.W.Fast.te7409074990110511671, PySem.W.Fast.te13664370479719496447, PySem.W.Fast.te14722251495701143533, PySem.W.Fast.te5923862056798008813, PySem.W.Fast.te10994771534591457954]
  kernel_rfl
theorem hd_left : LeftO pw vw [Str.ofString "BasicError"] (fun s => xlAt vw [] s && recOk PySem.Challenge.rw_pq0150_01.row.toRowW.records s) hk.obs hk.val 8060 true := by
  refine left_once (M := 4200) st0 open0 size0 st0_abs (by kernel_rfl) fun w os => ?_
  obtain ⟨z, hz, e⟩ := Option.map_eq_some_iff.mp (see0 w os)
  have e1 := see1 w os
  have e2 := see2 w os
  rw [hz] at e1 e2
  simp only [Option.map_some, Option.some.injEq, Prod.mk.injEq] at e e1 e2
  obtain ⟨c0, c1, c4, c6, c8, c10⟩ := e
  obtain ⟨c3, c5⟩ := e1
  obtain ⟨c7, c2, c9⟩ := e2
  refine ⟨z, hz, c10, ?_, c9⟩
  unfold openSeen openGood
  exact Prod.ext c0 (Prod.ext c1 (Prod.ext c2 (Prod.ext c3 (Prod.ext c4 (Prod.ext c5 (Prod.ext c6 (Prod.ext c7 c8)))))))
/-! ### HE -/
theorem said : PySem.Challenge.rw_pq0150_01.wellSaid = true := by
  rw [PySem.W.Fast.te9446332074065402090]
  kernel_rfl
theorem okk : (chainsOk vw && opensWell pw && (frees PySem.Challenge.rw_pq0150_01.row.toRowW && PySem.Challenge.rw_pq0150_01.row.within.isEmpty)) = true := by kernel_rfl
theorem bare0 : PySem.Challenge.rw_pq0150_01.row.prog.bare := ⟨rfl, rfl, rfl, rfl, rfl, by decide +kernel⟩
theorem prom0 : PySem.Challenge.rw_pq0150_01.row.toRowW.promised := by w_witness2
/-! ### HF -/
theorem hd {d : DefRec} (hd : defOf vw PySem.Challenge.rw_pq0150_01.row.name = some (d, []))
    (hp : pw.theDef PySem.Challenge.rw_pq0150_01.row.name = some (d.params, d.body, d.scope)) (hk : kwWritten? d.params.kwonlyargs d.params.kw_defaults = some [])
    (call : WalkO vw [Str.ofString "BasicError"] (XL vw []) (kmHook KK KA KA_of [648]).says PySem.Challenge.rw_pq0150_01.row.toRowW d [] fun f vs => PySem.call f vs) : PySem.Challenge.rw_pq0150_01.Holds :=
  holds_law said fun k1 => holds_open hd_left PQ.hk.of PQ.hk.keeps (fun s e => xl_of s (Bool.and_eq_true_iff.mp e).1) XL.keeps hd hp hk (fun s e => recFacts_of (Bool.and_eq_true_iff.mp e).2) rfl k1 okk bare0 prom0 call
/-! ### SA -/
noncomputable def fdOf (K : Frag) (f : Nat) : FuncData := match K.lookup f with
  | some ⟨_, _, .func fd, _⟩ => fd
  | _ => default
noncomputable def bodyOf (K : Frag) (f : Nat) : List Stmt := match (fdOf K f).body with
  | .stmts b => b
  | _ => []
noncomputable def namesOf (K : Frag) (f : Nat) : List Str := (fdOf K f).params.args.map (·.arg)
noncomputable def fnChk (K : Frag) (f : Nat) : Bool := match K.lookup f with
  | some ⟨_, _, .func fd, _⟩ => codeIn K fd.code fd.qualname && (match fd.body with | .stmts _ => true | _ => false) && fd.globals == mainGlobals && fd.builtins == builtinsNs && fd.closure.isEmpty && decide (fd.params.args.map (·.arg)).Nodup && fd.scope.names.all (fun x => x.2 != .cell) &&
      (fd.params.args.map (·.arg)).all (fun y => fd.scope.names.lookup y == some .local) && !fd.scope.isCoroutine && !fd.scope.isGenerator && fd.scope.kind == .function
  | _ => false
theorem fnOk {K : Frag} {f : Nat} (h : fnChk K f = true) (hb : ∀ vs : List Value, vs.length = (namesOf K f).length → bindArgs (fdOf K f) ⟨vs, []⟩ = pure ((namesOf K f).zip vs)) : FnOk K f (fdOf K f) (namesOf K f) (bodyOf K f) := by
  unfold fnChk at h
  unfold namesOf bodyOf
  unfold namesOf at hb
  generalize hl : K.lookup f = r at h
  have hfd : ∀ oc od fd osl, r = some ⟨oc, od, .func fd, osl⟩ → fdOf K f = fd := fun oc od fd osl e => by unfold fdOf; rw [hl, e]
  split at h
  · rename_i oc od fd osl
    rw [hfd _ _ _ _ rfl] at hb ⊢
    simp only [Bool.and_eq_true, List.all_eq_true, decide_eq_true_eq, beq_iff_eq, bne_iff_ne, List.isEmpty_iff, Bool.not_eq_true'] at h
    obtain ⟨⟨⟨⟨⟨⟨⟨⟨⟨⟨h1, h2⟩, h3⟩, h4⟩, h5⟩, h6⟩, h7⟩, h8⟩, h9⟩, h10⟩, h11⟩ := h
    refine ⟨⟨_, _, _, hl⟩, h1, ?_, h3, h4, h5, hb, h6, h7, h8, h9, h10, h11⟩
    revert h2
    cases fd.body <;> simp
  · cases h
/-! ### SG -/
theorem len0 {α : Type} {l : List α} (h : l.length = 0) : l = [] := List.eq_nil_of_length_eq_zero h
theorem len4 {α : Type} {l : List α} (h : l.length = 4) : ∃ a b c d, l = [a, b, c, d] := by
  cases l with
  | nil => cases h
  | cons a t =>
    obtain ⟨b, c, d, rfl⟩ := len3 (Nat.succ.inj h)
    exact ⟨a, b, c, d, rfl⟩
theorem len5 {α : Type} {l : List α} (h : l.length = 5) : ∃ a b c d e, l = [a, b, c, d, e] := by
  cases l with
  | nil => cases h
  | cons a t =>
    obtain ⟨b, c, d, e, rfl⟩ := len4 (Nat.succ.inj h)
    exact ⟨a, b, c, d, e, rfl⟩
theorem len6 {α : Type} {l : List α} (h : l.length = 6) : ∃ a b c d e f, l = [a, b, c, d, e, f] := by
  cases l with
  | nil => cases h
  | cons a t =>
    obtain ⟨b, c, d, e, f, rfl⟩ := len5 (Nat.succ.inj h)
    exact ⟨a, b, c, d, e, f, rfl⟩
theorem len7 {α : Type} {l : List α} (h : l.length = 7) : ∃ a b c d e f g, l = [a, b, c, d, e, f, g] := by
  cases l with
  | nil => cases h
  | cons a t =>
    obtain ⟨b, c, d, e, f, g, rfl⟩ := len6 (Nat.succ.inj h)
    exact ⟨a, b, c, d, e, f, g, rfl⟩
structure Gd (c : Cx) (p : Params) : Prop where
  K : c.B.K = KK p
  CB : c.B.CB = 34
theorem Gd.next {c : Cx} {p : Params} (g : Gd c p) {hv : Option Value} {d : Nat} : Gd ⟨c.B, hv, d⟩ p := ⟨g.K, g.CB⟩
theorem fnOk' {K : Frag} {f : Nat} {names : List Str} (h : fnChk K f = true) (hn : namesOf K f = names) (hb : ∀ vs : List Value, vs.length = names.length → bindArgs (fdOf K f) ⟨vs, []⟩ = pure (names.zip vs)) : FnOk K f (fdOf K f) names (bodyOf K f) := by
  subst hn; exact fnOk h hb
theorem fn_at {c : Cx} {p : Params} {H : HA} {Q : V → HA → Prop} {X : Addr → HA → Prop} {xs : List V} {f : Nat} {names : List Str} (g : Gd c p) (h : FnOk (KK p) f (fdOf (KK p) f) names (bodyOf (KK p) f))
    (hl : names.length = xs.length) (hd : 1 ≤ c.d) (e : ExW ⟨c.B, c.hv, c.d - 1⟩ (frOf f (fdOf (KK p) f)) (bodyOf (KK p) f) (names.zip xs) H (FnK Q) (FnX X)) : CodeW c f xs H Q X :=
  fn_code (by rw [g.K]; exact h) hl hd e
section
variable {c : Cx} {p : Params}
theorem n_isinstance (g : Gd c p) : nsIn c.B.K mainGlobals ("isinstance" : Str) = some none := by rw [g.K]; kernel_rfl
theorem b_isinstance : bootBuiltins ("isinstance" : Str) = some (.builtin "isinstance") := by kernel_rfl
theorem n_abs (g : Gd c p) : nsIn c.B.K mainGlobals ("abs" : Str) = some none := by rw [g.K]; kernel_rfl
theorem b_abs : bootBuiltins ("abs" : Str) = some (.builtin "abs") := by kernel_rfl
theorem n_len (g : Gd c p) : nsIn c.B.K mainGlobals ("len" : Str) = some none := by rw [g.K]; kernel_rfl
theorem b_len : bootBuiltins ("len" : Str) = some (.builtin "len") := by kernel_rfl
theorem n_range (g : Gd c p) : nsIn c.B.K mainGlobals ("range" : Str) = some none := by rw [g.K]; kernel_rfl
theorem b_range : bootBuiltins ("range" : Str) = some (.type "range") := by kernel_rfl
theorem n_enumerate (g : Gd c p) : nsIn c.B.K mainGlobals ("enumerate" : Str) = some none := by rw [g.K]; kernel_rfl
theorem b_enumerate : bootBuiltins ("enumerate" : Str) = some (.type "enumerate") := by kernel_rfl
theorem n_int (g : Gd c p) : nsIn c.B.K mainGlobals ("int" : Str) = some none := by rw [g.K]; kernel_rfl
theorem b_int : bootBuiltins ("int" : Str) = some (.type "int") := by kernel_rfl
theorem n_str (g : Gd c p) : nsIn c.B.K mainGlobals ("str" : Str) = some none := by rw [g.K]; kernel_rfl
theorem b_str : bootBuiltins ("str" : Str) = some (.type "str") := by kernel_rfl
theorem n_tuple (g : Gd c p) : nsIn c.B.K mainGlobals ("tuple" : Str) = some none := by rw [g.K]; kernel_rfl
theorem b_tuple : bootBuiltins ("tuple" : Str) = some (.type "tuple") := by kernel_rfl
theorem n_kind_of (g : Gd c p) : nsIn c.B.K mainGlobals ("kind_of" : Str) = some (some (.ref 44)) := by rw [g.K]; kernel_rfl
theorem n_fits (g : Gd c p) : nsIn c.B.K mainGlobals ("fits" : Str) = some (some (.ref 79)) := by rw [g.K]; kernel_rfl
theorem n_is_nought (g : Gd c p) : nsIn c.B.K mainGlobals ("is_nought" : Str) = some (some (.ref 107)) := by rw [g.K]; kernel_rfl
theorem n_is_true (g : Gd c p) : nsIn c.B.K mainGlobals ("is_true" : Str) = some (some (.ref 114)) := by rw [g.K]; kernel_rfl
theorem n_truth (g : Gd c p) : nsIn c.B.K mainGlobals ("truth" : Str) = some (some (.ref 121)) := by rw [g.K]; kernel_rfl
theorem n_is_whole (g : Gd c p) : nsIn c.B.K mainGlobals ("is_whole" : Str) = some (some (.ref 199)) := by rw [g.K]; kernel_rfl
theorem n_settled (g : Gd c p) : nsIn c.B.K mainGlobals ("settled" : Str) = some (some (.ref 206)) := by rw [g.K]; kernel_rfl
theorem n_whole_reckoned (g : Gd c p) : nsIn c.B.K mainGlobals ("whole_reckoned" : Str) = some (some (.ref 213)) := by rw [g.K]; kernel_rfl
theorem n_reckoned (g : Gd c p) : nsIn c.B.K mainGlobals ("reckoned" : Str) = some (some (.ref 255)) := by rw [g.K]; kernel_rfl
theorem n_order_of (g : Gd c p) : nsIn c.B.K mainGlobals ("order_of" : Str) = some (some (.ref 269)) := by rw [g.K]; kernel_rfl
theorem n_compared (g : Gd c p) : nsIn c.B.K mainGlobals ("compared" : Str) = some (some (.ref 299)) := by rw [g.K]; kernel_rfl
theorem n_worth_of_two (g : Gd c p) : nsIn c.B.K mainGlobals ("worth_of_two" : Str) = some (some (.ref 311)) := by rw [g.K]; kernel_rfl
theorem n_worth_of_leaf (g : Gd c p) : nsIn c.B.K mainGlobals ("worth_of_leaf" : Str) = some (some (.ref 325)) := by rw [g.K]; kernel_rfl
theorem n_leaf_order (g : Gd c p) : nsIn c.B.K mainGlobals ("leaf_order" : Str) = some (some (.ref 354)) := by rw [g.K]; kernel_rfl
theorem n_expression_orders (g : Gd c p) : nsIn c.B.K mainGlobals ("expression_orders" : Str) = some (some (.ref 361)) := by rw [g.K]; kernel_rfl
theorem n_target_orders (g : Gd c p) : nsIn c.B.K mainGlobals ("target_orders" : Str) = some (some (.ref 368)) := by rw [g.K]; kernel_rfl
theorem n_row_orders (g : Gd c p) : nsIn c.B.K mainGlobals ("row_orders" : Str) = some (some (.ref 375)) := by rw [g.K]; kernel_rfl
theorem n_led_to (g : Gd c p) : nsIn c.B.K mainGlobals ("led_to" : Str) = some (some (.ref 382)) := by rw [g.K]; kernel_rfl
theorem n_compile_rows (g : Gd c p) : nsIn c.B.K mainGlobals ("compile_rows" : Str) = some (some (.ref 389)) := by rw [g.K]; kernel_rfl
theorem n_goals_of (g : Gd c p) : nsIn c.B.K mainGlobals ("goals_of" : Str) = some (some (.ref 396)) := by rw [g.K]; kernel_rfl
theorem n_known_tests (g : Gd c p) : nsIn c.B.K mainGlobals ("known_tests" : Str) = some (some (.ref 408)) := by rw [g.K]; kernel_rfl
theorem n_last_goal (g : Gd c p) : nsIn c.B.K mainGlobals ("last_goal" : Str) = some (some (.ref 415)) := by rw [g.K]; kernel_rfl
theorem n_thread_jumps (g : Gd c p) : nsIn c.B.K mainGlobals ("thread_jumps" : Str) = some (some (.ref 422)) := by rw [g.K]; kernel_rfl
theorem n_put_row_of (g : Gd c p) : nsIn c.B.K mainGlobals ("put_row_of" : Str) = some (some (.ref 450)) := by rw [g.K]; kernel_rfl
theorem n_put_all (g : Gd c p) : nsIn c.B.K mainGlobals ("put_all" : Str) = some (some (.ref 464)) := by rw [g.K]; kernel_rfl
theorem n_gather (g : Gd c p) : nsIn c.B.K mainGlobals ("gather" : Str) = some (some (.ref 471)) := by rw [g.K]; kernel_rfl
theorem n_flatten (g : Gd c p) : nsIn c.B.K mainGlobals ("flatten" : Str) = some (some (.ref 492)) := by rw [g.K]; kernel_rfl
theorem n_law_drawn (g : Gd c p) : nsIn c.B.K mainGlobals ("_law_drawn" : Str) = some (some (.ref 632)) := by rw [g.K]; kernel_rfl
theorem n_law_rows (g : Gd c p) : nsIn c.B.K mainGlobals ("_law_rows" : Str) = some (some (.ref 639)) := by rw [g.K]; kernel_rfl
theorem n_law_walk (g : Gd c p) : nsIn c.B.K mainGlobals ("_law_walk" : Str) = some (some (.ref 646)) := by rw [g.K]; kernel_rfl
theorem n_law_is_ring (g : Gd c p) : nsIn c.B.K mainGlobals ("_law_is_ring" : Str) = some (some (.ref 660)) := by rw [g.K]; kernel_rfl
theorem n_moved_orders (g : Gd c p) : nsIn c.B.K mainGlobals ("moved_orders" : Str) = some (some (.ref 401)) := by rw [g.K]; kernel_rfl
theorem n_law_begun (g : Gd c p) : nsIn c.B.K mainGlobals ("_law_begun" : Str) = some (some (.ref 653)) := by rw [g.K]; kernel_rfl
theorem n_RowCode (g : Gd c p) : nsIn c.B.K mainGlobals ("RowCode" : Str) = some (some (.ref 343)) := by rw [g.K]; kernel_rfl
theorem n_Flat (g : Gd c p) : nsIn c.B.K mainGlobals ("Flat" : Str) = some (some (.ref 439)) := by rw [g.K]; kernel_rfl
theorem n_PlainHooks (g : Gd c p) : nsIn c.B.K mainGlobals ("PlainHooks" : Str) = some (some (.ref 544)) := by rw [g.K]; kernel_rfl
theorem n_RowWays (g : Gd c p) : nsIn c.B.K mainGlobals ("RowWays" : Str) = some (some (.ref 565)) := by rw [g.K]; kernel_rfl
theorem n_RowRun (g : Gd c p) : nsIn c.B.K mainGlobals ("RowRun" : Str) = some (some (.ref 621)) := by rw [g.K]; kernel_rfl
theorem n_BasicError (g : Gd c p) : nsIn c.B.K mainGlobals ("BasicError" : Str) = some (some (.ref 34)) := by rw [g.K]; kernel_rfl
theorem f_kind_of : FnOk (KK p) 44 (fdOf (KK p) 44) [("value" : Str)] (bodyOf (KK p) 44) := fnOk' (by kernel_rfl) (by kernel_rfl) fun vs h => by
  obtain ⟨a0, rfl⟩ := len1 h; kernel_rfl
theorem f_fits : FnOk (KK p) 79 (fdOf (KK p) 79) [("number" : Str), ("bits" : Str)] (bodyOf (KK p) 79) := fnOk' (by kernel_rfl) (by kernel_rfl) fun vs h => by
  obtain ⟨a0, a1, rfl⟩ := len2 h; kernel_rfl
theorem f_is_nought : FnOk (KK p) 107 (fdOf (KK p) 107) [("value" : Str)] (bodyOf (KK p) 107) := fnOk' (by kernel_rfl) (by kernel_rfl) fun vs h => by
  obtain ⟨a0, rfl⟩ := len1 h; kernel_rfl
theorem f_is_true : FnOk (KK p) 114 (fdOf (KK p) 114) [("value" : Str)] (bodyOf (KK p) 114) := fnOk' (by kernel_rfl) (by kernel_rfl) fun vs h => by
  obtain ⟨a0, rfl⟩ := len1 h; kernel_rfl
theorem f_truth : FnOk (KK p) 121 (fdOf (KK p) 121) [("is_so" : Str)] (bodyOf (KK p) 121) := fnOk' (by kernel_rfl) (by kernel_rfl) fun vs h => by
  obtain ⟨a0, rfl⟩ := len1 h; kernel_rfl
theorem f_is_whole : FnOk (KK p) 199 (fdOf (KK p) 199) [("value" : Str)] (bodyOf (KK p) 199) := fnOk' (by kernel_rfl) (by kernel_rfl) fun vs h => by
  obtain ⟨a0, rfl⟩ := len1 h; kernel_rfl
theorem f_settled : FnOk (KK p) 206 (fdOf (KK p) 206) [("number" : Str), ("bits" : Str), ("digits" : Str)] (bodyOf (KK p) 206) := fnOk' (by kernel_rfl) (by kernel_rfl) fun vs h => by
  obtain ⟨a0, a1, a2, rfl⟩ := len3 h; kernel_rfl
theorem f_whole_reckoned : FnOk (KK p) 213 (fdOf (KK p) 213) [("op" : Str), ("a" : Str), ("b" : Str), ("bits" : Str), ("digits" : Str)] (bodyOf (KK p) 213) := fnOk' (by kernel_rfl) (by kernel_rfl) fun vs h => by
  obtain ⟨a0, a1, a2, a3, a4, rfl⟩ := len5 h; kernel_rfl
theorem f_reckoned : FnOk (KK p) 255 (fdOf (KK p) 255) [("op" : Str), ("a" : Str), ("b" : Str), ("bits" : Str), ("digits" : Str)] (bodyOf (KK p) 255) := fnOk' (by kernel_rfl) (by kernel_rfl) fun vs h => by
  obtain ⟨a0, a1, a2, a3, a4, rfl⟩ := len5 h; kernel_rfl
theorem f_order_of : FnOk (KK p) 269 (fdOf (KK p) 269) [("a" : Str), ("b" : Str)] (bodyOf (KK p) 269) := fnOk' (by kernel_rfl) (by kernel_rfl) fun vs h => by
  obtain ⟨a0, a1, rfl⟩ := len2 h; kernel_rfl
theorem f_compared : FnOk (KK p) 299 (fdOf (KK p) 299) [("op" : Str), ("order" : Str)] (bodyOf (KK p) 299) := fnOk' (by kernel_rfl) (by kernel_rfl) fun vs h => by
  obtain ⟨a0, a1, rfl⟩ := len2 h; kernel_rfl
theorem f_worth_of_two : FnOk (KK p) 311 (fdOf (KK p) 311) [("op" : Str), ("one" : Str), ("other" : Str), ("bits" : Str), ("digits" : Str)] (bodyOf (KK p) 311) := fnOk' (by kernel_rfl) (by kernel_rfl) fun vs h => by
  obtain ⟨a0, a1, a2, a3, a4, rfl⟩ := len5 h; kernel_rfl
theorem f_worth_of_leaf : FnOk (KK p) 325 (fdOf (KK p) 325) [("tree" : Str), ("bits" : Str), ("digits" : Str)] (bodyOf (KK p) 325) := fnOk' (by kernel_rfl) (by kernel_rfl) fun vs h => by
  obtain ⟨a0, a1, a2, rfl⟩ := len3 h; kernel_rfl
theorem f_leaf_order : FnOk (KK p) 354 (fdOf (KK p) 354) [("tree" : Str), ("bits" : Str), ("digits" : Str)] (bodyOf (KK p) 354) := fnOk' (by kernel_rfl) (by kernel_rfl) fun vs h => by
  obtain ⟨a0, a1, a2, rfl⟩ := len3 h; kernel_rfl
theorem f_expression_orders : FnOk (KK p) 361 (fdOf (KK p) 361) [("tree" : Str), ("bits" : Str), ("digits" : Str)] (bodyOf (KK p) 361) := fnOk' (by kernel_rfl) (by kernel_rfl) fun vs h => by
  obtain ⟨a0, a1, a2, rfl⟩ := len3 h; kernel_rfl
theorem f_target_orders : FnOk (KK p) 368 (fdOf (KK p) 368) [("target" : Str), ("value" : Str), ("bits" : Str), ("digits" : Str)] (bodyOf (KK p) 368) := fnOk' (by kernel_rfl) (by kernel_rfl) fun vs h => by
  obtain ⟨a0, a1, a2, a3, rfl⟩ := len4 h; kernel_rfl
theorem f_row_orders : FnOk (KK p) 375 (fdOf (KK p) 375) [("flat" : Str), ("at" : Str), ("bits" : Str), ("digits" : Str)] (bodyOf (KK p) 375) := fnOk' (by kernel_rfl) (by kernel_rfl) fun vs h => by
  obtain ⟨a0, a1, a2, a3, rfl⟩ := len4 h; kernel_rfl
theorem f_led_to : FnOk (KK p) 382 (fdOf (KK p) 382) [("orders" : Str), ("starts" : Str), ("end" : Str)] (bodyOf (KK p) 382) := fnOk' (by kernel_rfl) (by kernel_rfl) fun vs h => by
  obtain ⟨a0, a1, a2, rfl⟩ := len3 h; kernel_rfl
theorem f_compile_rows : FnOk (KK p) 389 (fdOf (KK p) 389) [("flat" : Str), ("bits" : Str), ("digits" : Str)] (bodyOf (KK p) 389) := fnOk' (by kernel_rfl) (by kernel_rfl) fun vs h => by
  obtain ⟨a0, a1, a2, rfl⟩ := len3 h; kernel_rfl
theorem f_goals_of : FnOk (KK p) 396 (fdOf (KK p) 396) [("code" : Str)] (bodyOf (KK p) 396) := fnOk' (by kernel_rfl) (by kernel_rfl) fun vs h => by
  obtain ⟨a0, rfl⟩ := len1 h; kernel_rfl
theorem f_known_tests : FnOk (KK p) 408 (fdOf (KK p) 408) [("code" : Str)] (bodyOf (KK p) 408) := fnOk' (by kernel_rfl) (by kernel_rfl) fun vs h => by
  obtain ⟨a0, rfl⟩ := len1 h; kernel_rfl
theorem f_last_goal : FnOk (KK p) 415 (fdOf (KK p) 415) [("orders" : Str), ("place" : Str)] (bodyOf (KK p) 415) := fnOk' (by kernel_rfl) (by kernel_rfl) fun vs h => by
  obtain ⟨a0, a1, rfl⟩ := len2 h; kernel_rfl
theorem f_thread_jumps : FnOk (KK p) 422 (fdOf (KK p) 422) [("code" : Str)] (bodyOf (KK p) 422) := fnOk' (by kernel_rfl) (by kernel_rfl) fun vs h => by
  obtain ⟨a0, rfl⟩ := len1 h; kernel_rfl
theorem f_put_row_of : FnOk (KK p) 450 (fdOf (KK p) 450) [("flat" : Str), ("line" : Str), ("statement" : Str)] (bodyOf (KK p) 450) := fnOk' (by kernel_rfl) (by kernel_rfl) fun vs h => by
  obtain ⟨a0, a1, a2, rfl⟩ := len3 h; kernel_rfl
theorem f_put_all : FnOk (KK p) 464 (fdOf (KK p) 464) [("flat" : Str), ("line" : Str), ("statements" : Str)] (bodyOf (KK p) 464) := fnOk' (by kernel_rfl) (by kernel_rfl) fun vs h => by
  obtain ⟨a0, a1, a2, rfl⟩ := len3 h; kernel_rfl
theorem f_gather : FnOk (KK p) 471 (fdOf (KK p) 471) [("flat" : Str)] (bodyOf (KK p) 471) := fnOk' (by kernel_rfl) (by kernel_rfl) fun vs h => by
  obtain ⟨a0, rfl⟩ := len1 h; kernel_rfl
theorem f_flatten : FnOk (KK p) 492 (fdOf (KK p) 492) [("parsed" : Str)] (bodyOf (KK p) 492) := fnOk' (by kernel_rfl) (by kernel_rfl) fun vs h => by
  obtain ⟨a0, rfl⟩ := len1 h; kernel_rfl
theorem f_law_drawn : FnOk (KK p) 632 (fdOf (KK p) 632) [("source" : Str), ("below" : Str)] (bodyOf (KK p) 632) := fnOk' (by kernel_rfl) (by kernel_rfl) fun vs h => by
  obtain ⟨a0, a1, rfl⟩ := len2 h; kernel_rfl
theorem f_law_rows : FnOk (KK p) 639 (fdOf (KK p) 639) [("source" : Str)] (bodyOf (KK p) 639) := fnOk' (by kernel_rfl) (by kernel_rfl) fun vs h => by
  obtain ⟨a0, rfl⟩ := len1 h; kernel_rfl
theorem f_law_walk : FnOk (KK p) 646 (fdOf (KK p) 646) [("rows" : Str)] (bodyOf (KK p) 646) := fnOk' (by kernel_rfl) (by kernel_rfl) fun vs h => by
  obtain ⟨a0, rfl⟩ := len1 h; kernel_rfl
theorem f_law_is_ring : FnOk (KK p) 660 (fdOf (KK p) 660) [("orders" : Str), ("place" : Str)] (bodyOf (KK p) 660) := fnOk' (by kernel_rfl) (by kernel_rfl) fun vs h => by
  obtain ⟨a0, a1, rfl⟩ := len2 h; kernel_rfl
theorem f_RowCode_init : FnOk (KK p) 340 (fdOf (KK p) 340) [("self" : Str), ("orders" : Str), ("starts" : Str)] (bodyOf (KK p) 340) := fnOk' (by kernel_rfl) (by kernel_rfl) fun vs h => by
  obtain ⟨a0, a1, a2, rfl⟩ := len3 h; kernel_rfl
theorem f_Flat_init : FnOk (KK p) 436 (fdOf (KK p) 436) [("self" : Str)] (bodyOf (KK p) 436) := fnOk' (by kernel_rfl) (by kernel_rfl) fun vs h => by
  obtain ⟨a0, rfl⟩ := len1 h; kernel_rfl
theorem f_PlainHooks_init : FnOk (KK p) 506 (fdOf (KK p) 506) [("self" : Str), ("values" : Str), ("bits" : Str), ("digits" : Str)] (bodyOf (KK p) 506) := fnOk' (by kernel_rfl) (by kernel_rfl) fun vs h => by
  obtain ⟨a0, a1, a2, a3, rfl⟩ := len4 h; kernel_rfl
theorem f_PlainHooks_value_of_name : FnOk (KK p) 513 (fdOf (KK p) 513) [("self" : Str), ("word" : Str)] (bodyOf (KK p) 513) := fnOk' (by kernel_rfl) (by kernel_rfl) fun vs h => by
  obtain ⟨a0, a1, rfl⟩ := len2 h; kernel_rfl
theorem f_RowWays_init : FnOk (KK p) 562 (fdOf (KK p) 562) [("self" : Str), ("begin" : Str), ("store" : Str), ("put" : Str), ("do" : Str), ("led" : Str)] (bodyOf (KK p) 562) := fnOk' (by kernel_rfl) (by kernel_rfl) fun vs h => by
  obtain ⟨a0, a1, a2, a3, a4, a5, rfl⟩ := len6 h; kernel_rfl
theorem f_RowRun_init : FnOk (KK p) 583 (fdOf (KK p) 583) [("self" : Str), ("code" : Str), ("values" : Str), ("bits" : Str), ("digits" : Str), ("hooks" : Str), ("ways" : Str)] (bodyOf (KK p) 583) := fnOk' (by kernel_rfl) (by kernel_rfl) fun vs h => by
  obtain ⟨a0, a1, a2, a3, a4, a5, a6, rfl⟩ := len7 h; kernel_rfl
theorem f_RowRun_place_of : FnOk (KK p) 590 (fdOf (KK p) 590) [("self" : Str), ("row" : Str)] (bodyOf (KK p) 590) := fnOk' (by kernel_rfl) (by kernel_rfl) fun vs h => by
  obtain ⟨a0, a1, rfl⟩ := len2 h; kernel_rfl
theorem f_RowRun_taken : FnOk (KK p) 597 (fdOf (KK p) 597) [("self" : Str), ("many" : Str)] (bodyOf (KK p) 597) := fnOk' (by kernel_rfl) (by kernel_rfl) fun vs h => by
  obtain ⟨a0, a1, rfl⟩ := len2 h; kernel_rfl
theorem f_RowRun_go_from : FnOk (KK p) 604 (fdOf (KK p) 604) [("self" : Str), ("row" : Str)] (bodyOf (KK p) 604) := fnOk' (by kernel_rfl) (by kernel_rfl) fun vs h => by
  obtain ⟨a0, a1, rfl⟩ := len2 h; kernel_rfl
theorem f_RowRun_done : FnOk (KK p) 611 (fdOf (KK p) 611) [("self" : Str), ("order" : Str), ("place" : Str)] (bodyOf (KK p) 611) := fnOk' (by kernel_rfl) (by kernel_rfl) fun vs h => by
  obtain ⟨a0, a1, a2, rfl⟩ := len3 h; kernel_rfl
theorem f_RowRun_value_of : FnOk (KK p) 618 (fdOf (KK p) 618) [("self" : Str), ("order" : Str)] (bodyOf (KK p) 618) := fnOk' (by kernel_rfl) (by kernel_rfl) fun vs h => by
  obtain ⟨a0, a1, rfl⟩ := len2 h; kernel_rfl
theorem m_RowCode (g : Gd c p) : makesIn c.B.K 343 = true := by rw [g.K]; kernel_rfl
theorem i_RowCode (g : Gd c p) : findIn c.B.K (.ref 343) "__init__" = some (some (.ref 340)) := by rw [g.K]; kernel_rfl
theorem t_RowCode (g : Gd c p) : typeIn c.B.K (.ref 340) = some (.type "function") := by rw [g.K]; kernel_rfl
theorem m_Flat (g : Gd c p) : makesIn c.B.K 439 = true := by rw [g.K]; kernel_rfl
theorem i_Flat (g : Gd c p) : findIn c.B.K (.ref 439) "__init__" = some (some (.ref 436)) := by rw [g.K]; kernel_rfl
theorem t_Flat (g : Gd c p) : typeIn c.B.K (.ref 436) = some (.type "function") := by rw [g.K]; kernel_rfl
theorem m_PlainHooks (g : Gd c p) : makesIn c.B.K 544 = true := by rw [g.K]; kernel_rfl
theorem i_PlainHooks (g : Gd c p) : findIn c.B.K (.ref 544) "__init__" = some (some (.ref 506)) := by rw [g.K]; kernel_rfl
theorem t_PlainHooks (g : Gd c p) : typeIn c.B.K (.ref 506) = some (.type "function") := by rw [g.K]; kernel_rfl
theorem m_RowWays (g : Gd c p) : makesIn c.B.K 565 = true := by rw [g.K]; kernel_rfl
theorem i_RowWays (g : Gd c p) : findIn c.B.K (.ref 565) "__init__" = some (some (.ref 562)) := by rw [g.K]; kernel_rfl
theorem t_RowWays (g : Gd c p) : typeIn c.B.K (.ref 562) = some (.type "function") := by rw [g.K]; kernel_rfl
theorem m_RowRun (g : Gd c p) : makesIn c.B.K 621 = true := by rw [g.K]; kernel_rfl
theorem i_RowRun (g : Gd c p) : findIn c.B.K (.ref 621) "__init__" = some (some (.ref 583)) := by rw [g.K]; kernel_rfl
theorem t_RowRun (g : Gd c p) : typeIn c.B.K (.ref 583) = some (.type "function") := by rw [g.K]; kernel_rfl
theorem me_PlainHooks_value_of_name (g : Gd c p) : methIn c.B.K 544 ("value_of_name" : Str) 513 = true := by rw [g.K]; kernel_rfl
theorem me_RowRun_place_of (g : Gd c p) : methIn c.B.K 621 ("place_of" : Str) 590 = true := by rw [g.K]; kernel_rfl
theorem me_RowRun_taken (g : Gd c p) : methIn c.B.K 621 ("taken" : Str) 597 = true := by rw [g.K]; kernel_rfl
theorem me_RowRun_go_from (g : Gd c p) : methIn c.B.K 621 ("go_from" : Str) 604 = true := by rw [g.K]; kernel_rfl
theorem me_RowRun_done (g : Gd c p) : methIn c.B.K 621 ("done" : Str) 611 = true := by rw [g.K]; kernel_rfl
theorem me_RowRun_value_of (g : Gd c p) : methIn c.B.K 621 ("value_of" : Str) 618 = true := by rw [g.K]; kernel_rfl
end
/-! ### SH -/
theorem lk_here {x : Str} {v : V} {l : LM} : List.lookup x ((x, v) :: l) = some v := by simp
theorem lk_next {x y : Str} {v w : V} {l : LM} (h : (x == y) = false) (e : List.lookup x l = some v) : List.lookup x ((y, w) :: l) = some v := by rw [List.lookup_cons, h]; exact e
theorem lk_zip {x : Str} {ns : List Str} {v : V} {vs : List V} {y : Str} {w : V} (e : List.lookup x ((y, w) :: ns.zip vs) = some v) : List.lookup x ((y :: ns).zip (w :: vs)) = some v := e
theorem lk_set {x : Str} {v : V} {m : LM} : List.lookup x (fset x v m) = some v := by rw [fset_lookup]; simp
theorem lk_skip {x y : Str} {v w : V} {m : LM} (h : (x == y) = false) (e : List.lookup x m = some v) : List.lookup x (fset y w m) = some v := by rw [fset_lookup]; simp only [beq_eq_false_iff_ne, ne_eq] at h; simp [h, e]
theorem ite_t {P R : Prop} (h : P) : if true = true then P else R := h
theorem ite_f {P R : Prop} (h : R) : if false = true then P else R := h
noncomputable abbrev Asg2K (x1 x2 : Str) (m : LM) (Q : Fl → LM → HA → Prop) : V → HA → Prop := fun v H1 => match v with
  | .tup [a, b] => Q .next (fset x1 a (fset x2 b m)) H1
  | _ => False
noncomputable abbrev Asg3K (x1 x2 x3 : Str) (m : LM) (Q : Fl → LM → HA → Prop) : V → HA → Prop := fun v H1 => match v with
  | .tup [a, b, d] => Q .next (fset x1 a (fset x2 b (fset x3 d m))) H1
  | _ => False
theorem fn_go {c : Cx} {p : Params} {H : HA} {Q : V → HA → Prop} {X : Addr → HA → Prop} {xs : List V} {f : Nat} {names : List Str} (g : Gd c p) (h : FnOk (KK p) f (fdOf (KK p) f) names (bodyOf (KK p) f))
    (hl : names.length = xs.length) (hd : 1 ≤ c.d) (e : ∀ c', Gd c' p → c'.hv = c.hv → c'.d + 1 = c.d → ExW c' (frOf f (fdOf (KK p) f)) (bodyOf (KK p) f) (names.zip xs) H (FnK Q) (FnX X)) : CodeW c f xs H Q X :=
  fn_at g h hl hd (e _ g.next rfl (Nat.sub_add_cancel hd))
section
variable {c : Cx} {fa : FrA} {m : LM} {H : HA} {X : Addr → LM → HA → Prop} {XO : Addr → HA → Prop}
theorem id_name {x : Str} {pos : Pos} {Q : V → HA → Prop} (h : EvW c fa (.Name x pos) m H Q X) : EvW c fa (.Name x pos) m H Q X := h
theorem id_ev {e : Expr} {Q : V → HA → Prop} (h : EvW c fa e m H Q X) : EvW c fa e m H Q X := h
theorem id_ts {e : Expr} {Q : Bool → HA → Prop} (h : TsW c fa e m H Q X) : TsW c fa e m H Q X := h
theorem id_all {op : BoolOp} {e : List Expr} {Q : Bool → HA → Prop} (h : AllW c fa op e m H Q X) : AllW c fa op e m H Q X := h
theorem id_ar {e : List Expr} {Q : List V → HA → Prop} (h : ArW c fa e m H Q X) : ArW c fa e m H Q X := h
theorem id_ex {e : List Stmt} {Q : Fl → LM → HA → Prop} (h : ExW c fa e m H Q X) : ExW c fa e m H Q X := h
theorem id_xs {e : Stmt} {Q : Fl → LM → HA → Prop} (h : ExS c fa e m H Q X) : ExS c fa e m H Q X := h
theorem id_call {f : V} {xs : List V} {Q : V → HA → Prop} (h : CallW c f xs H Q XO) : CallW c f xs H Q XO := h
theorem id_callA (a : Nat) {xs : List V} {Q : V → HA → Prop} (h : CallW c (.glob a) xs H Q XO) : CallW c (.glob a) xs H Q XO := h
theorem id_op1 {f : Value → Sem Value} {x : V} {Q : V → HA → Prop} (h : Op1 c f x H Q XO) : Op1 c f x H Q XO := h
theorem id_op2 {f : Value → Value → Sem Value} {x y : V} {Q : V → HA → Prop} (h : Op2 c f x y H Q XO) : Op2 c f x y H Q XO := h
theorem id_opN {f : List Value → Sem Value} {xs : List V} {Q : V → HA → Prop} (h : OpN c f xs H Q XO) : OpN c f xs H Q XO := h
end
section
variable {c : Cx} {H : HA} {Q : V → HA → Prop} {X : Addr → HA → Prop} {x y : Str} {a b : Bool}
theorem op_eqs_t (h : (x == y) = true) (hq : Q (.bool true) H) : Op2 c (compareOp .Eq) (.str x) (.str y) H Q X := op_eqs (by rw [h]; exact hq)
theorem op_eqs_f (h : (x == y) = false) (hq : Q (.bool false) H) : Op2 c (compareOp .Eq) (.str x) (.str y) H Q X := op_eqs (by rw [h]; exact hq)
theorem op_nes_t (h : (x != y) = true) (hq : Q (.bool true) H) : Op2 c (compareOp .NotEq) (.str x) (.str y) H Q X := op_nes (by rw [h]; exact hq)
theorem op_nes_f (h : (x != y) = false) (hq : Q (.bool false) H) : Op2 c (compareOp .NotEq) (.str x) (.str y) H Q X := op_nes (by rw [h]; exact hq)
theorem op_neb_f (h : (a != b) = false) (hq : Q (.bool false) H) : Op2 c (compareOp .NotEq) (.bool a) (.bool b) H Q X := op_neb (by rw [h]; exact hq)
end
section
variable {c : Cx} {fa : FrA} {m : LM} {H : HA} {Q : Fl → LM → HA → Prop} {X : Addr → LM → HA → Prop} {x1 x2 x3 : Str} {p1 p2 p3 tp pos : Pos} {kk : Nat} {value : Expr}
theorem xs_asg2 (hn : c.hv = none) (h : EvW c fa value m H (Asg2K x1 x2 m Q) X) (hs : ∀ env, swapsWithSole [.Tuple [.Name x1 p1, .Name x2 p2] kk tp] value pos.line env = pure false)
    (hw : ∀ env, env.scope = fa.cs → swappedStores [.Tuple [.Name x1 p1, .Name x2 p2] kk tp] value env = pure (some [x1, x2])) (hx1 : fa.cs.names.lookup x1 = some .local) (hx2 : fa.cs.names.lookup x2 = some .local) :
    ExS c fa (.Assign [.Tuple [.Name x1 p1, .Name x2 p2] kk tp] value pos) m H Q X :=
  xs_asgX (names := [x1, x2]) hn (h.mono (fun v H1 q => by
    cases v with
    | tup xs => match xs, q with
      | [a, b], q => exact ⟨rfl, q⟩
    | _ => exact q.elim) fun _ _ _ z => z) hs hw (by simp [hx1, hx2])
theorem xs_asg3 (hn : c.hv = none) (h : EvW c fa value m H (Asg3K x1 x2 x3 m Q) X) (hs : ∀ env, swapsWithSole [.Tuple [.Name x1 p1, .Name x2 p2, .Name x3 p3] kk tp] value pos.line env = pure false)
    (hw : ∀ env, env.scope = fa.cs → swappedStores [.Tuple [.Name x1 p1, .Name x2 p2, .Name x3 p3] kk tp] value env = pure (some [x1, x2, x3])) (hx1 : fa.cs.names.lookup x1 = some .local) (hx2 : fa.cs.names.lookup x2 = some .local) (hx3 : fa.cs.names.lookup x3 = some .local) :
    ExS c fa (.Assign [.Tuple [.Name x1 p1, .Name x2 p2, .Name x3 p3] kk tp] value pos) m H Q X :=
  xs_asgX (names := [x1, x2, x3]) hn (h.mono (fun v H1 q => by
    cases v with
    | tup xs => match xs, q with
      | [a, b, d], q => exact ⟨rfl, q⟩
    | _ => exact q.elim) fun _ _ _ z => z) hs hw (by simp [hx1, hx2, hx3])
theorem id_asg2 (h : ExS c fa (.Assign [.Tuple [.Name x1 p1, .Name x2 p2] kk tp] value pos) m H Q X) : ExS c fa (.Assign [.Tuple [.Name x1 p1, .Name x2 p2] kk tp] value pos) m H Q X := h
theorem id_asg3 (h : ExS c fa (.Assign [.Tuple [.Name x1 p1, .Name x2 p2, .Name x3 p3] kk tp] value pos) m H Q X) : ExS c fa (.Assign [.Tuple [.Name x1 p1, .Name x2 p2, .Name x3 p3] kk tp] value pos) m H Q X := h
theorem id_asg (h : ExS c fa (.Assign [.Name x1 p1] value pos) m H Q X) : ExS c fa (.Assign [.Name x1 p1] value pos) m H Q X := h
theorem scope_eq {cs : Scope} {α : Type} {f : Env → α} {r : α} (h : ∀ l1 l2 l3 l4 l5 l6 l7 l8, f ⟨cs, l1, l2, l3, l4, l5, l6, l7, l8⟩ = r) : ∀ env : Env, env.scope = cs → f env = r := fun ⟨sc, l1, l2, l3, l4, l5, l6, l7, l8⟩ e => by
  subst e; exact h ..
end
theorem len_and {xs : List V} {P : Prop} (hl : xs.length ≤ 1000) (h : P) : xs.length ≤ 1000 ∧ P := ⟨hl, h⟩
section
variable {c : Cx} {fa : FrA} {m : LM} {H : HA}
theorem id_tg {t : Expr} {v : V} {Q : LM → HA → Prop} (h : TgW c fa t v m H Q) : TgW c fa t v m H Q := h
theorem id_asgT {es : List Expr} {k : Nat} {tp pos : Pos} {value : Expr} {Q : Fl → LM → HA → Prop} {X : Addr → LM → HA → Prop} (h : ExS c fa (.Assign [.Tuple es k tp] value pos) m H Q X) : ExS c fa (.Assign [.Tuple es k tp] value pos) m H Q X := h
theorem id_tgs {t : List Expr} {v : List V} {Q : LM → HA → Prop} (h : TgsW c fa t v m H Q) : TgsW c fa t v m H Q := h
end
theorem x_BE {c : Cx} {p : Params} (g : Gd c p) : exmOne c.B.K (.ref c.B.CB) (.ref c.B.CB) = some true := by rw [g.K, g.CB]; kernel_rfl
theorem s_BE {c : Cx} {p : Params} (g : Gd c p) : subIn c.B.K (.ref c.B.CB) (.type "BaseException") = some true := by rw [g.K, g.CB]; kernel_rfl
theorem t_BE {c : Cx} {p : Params} (g : Gd c p) : typeIn c.B.K (.ref c.B.CB) = some (.type "type") := by rw [g.K, g.CB]; kernel_rfl
theorem n_BE {c : Cx} {p : Params} (g : Gd c p) : nsIn c.B.K mainGlobals ("BasicError" : Str) = some (some (.ref c.B.CB)) := by rw [g.CB]; exact n_BasicError g
section
variable {H t : HA} {n k : Nat} {a b x : Ob}
theorem hs_here (h : H[n]? = some a) : (H.set n x)[n]? = some x := by
  have := (List.getElem?_eq_some_iff.mp h).1
  rw [List.getElem?_set_self this]
theorem hs_skip (h : n ≠ k) (e : H[k]? = some b) : (H.set n x)[k]? = some b := by rw [List.getElem?_set_ne h]; exact e
theorem hs_skipO (h : H[n]? = some a) (e : H[k]? = some b) (ne : a ≠ b) : (H.set n x)[k]? = some b := hs_skip (fun z => ne (by rw [z, e] at h; exact (Option.some.inj h).symm)) e
theorem hs_app (e : H[k]? = some b) : (H ++ t)[k]? = some b := by
  rw [List.getElem?_append_left (List.getElem?_eq_some_iff.mp e).1]; exact e
theorem hs_last : (H ++ [x])[H.length]? = some x := List.getElem?_concat_length
end
section
variable {c : Cx} {H : HA} {Q : V → HA → Prop} {X : Addr → HA → Prop} {i j : Int}
theorem op_lt_t (h : i < j) (hq : Q (.bool true) H) : Op2 c (compareOp .Lt) (.int i) (.int j) H Q X := op_lt (by rw [decide_eq_true h]; exact hq)
theorem op_lt_f (h : ¬ i < j) (hq : Q (.bool false) H) : Op2 c (compareOp .Lt) (.int i) (.int j) H Q X := op_lt (by rw [decide_eq_false h]; exact hq)
theorem op_gt_t (h : j < i) (hq : Q (.bool true) H) : Op2 c (compareOp .Gt) (.int i) (.int j) H Q X := op_gt (by rw [decide_eq_true h]; exact hq)
theorem op_gt_f (h : ¬ j < i) (hq : Q (.bool false) H) : Op2 c (compareOp .Gt) (.int i) (.int j) H Q X := op_gt (by rw [decide_eq_false h]; exact hq)
theorem op_le_t (h : i ≤ j) (hq : Q (.bool true) H) : Op2 c (compareOp .LtE) (.int i) (.int j) H Q X := op_le (by rw [decide_eq_true h]; exact hq)
theorem op_le_f (h : ¬ i ≤ j) (hq : Q (.bool false) H) : Op2 c (compareOp .LtE) (.int i) (.int j) H Q X := op_le (by rw [decide_eq_false h]; exact hq)
theorem op_ge_t (h : j ≤ i) (hq : Q (.bool true) H) : Op2 c (compareOp .GtE) (.int i) (.int j) H Q X := op_ge (by rw [decide_eq_true h]; exact hq)
theorem op_eq_t (h : i = j) (hq : Q (.bool true) H) : Op2 c (compareOp .Eq) (.int i) (.int j) H Q X := op_eq (by rw [beq_iff_eq.mpr h]; exact hq)
theorem op_eq_f (h : i ≠ j) (hq : Q (.bool false) H) : Op2 c (compareOp .Eq) (.int i) (.int j) H Q X := op_eq (by rw [beq_eq_false_iff_ne.mpr h]; exact hq)
theorem op_ne_t (h : i ≠ j) (hq : Q (.bool true) H) : Op2 c (compareOp .NotEq) (.int i) (.int j) H Q X := op_ne (by rw [bne_iff_ne.mpr h]; exact hq)
theorem op_ne_f (h : i = j) (hq : Q (.bool false) H) : Op2 c (compareOp .NotEq) (.int i) (.int j) H Q X := op_ne (by subst h; rw [bne_self_eq_false]; exact hq)
end
/-! guards -/
section
variable {c : Cx} {fa : FrA} {m : LM} {H : HA} {X : Addr → LM → HA → Prop} {XO : Addr → HA → Prop} {Q : V → HA → Prop}
theorem id_bin {o : Operator} {x y : V} (h : Op2 c (binaryOp o) x y H Q XO) : Op2 c (binaryOp o) x y H Q XO := h
theorem id_cmpI {o : CmpOp} {x y : Int} (h : Op2 c (compareOp o) (.int x) (.int y) H Q XO) : Op2 c (compareOp o) (.int x) (.int y) H Q XO := h
theorem id_cmpS {o : CmpOp} {x y : Str} (h : Op2 c (compareOp o) (.str x) (.str y) H Q XO) : Op2 c (compareOp o) (.str x) (.str y) H Q XO := h
theorem id_cmpB {o : CmpOp} {x y : Bool} (h : Op2 c (compareOp o) (.bool x) (.bool y) H Q XO) : Op2 c (compareOp o) (.bool x) (.bool y) H Q XO := h
theorem id_itT {l r : Expr} {xs : List V} {k : Int} (h : Op2 c (subscriptTail l r) (.tup xs) (.int k) H Q XO) : Op2 c (subscriptTail l r) (.tup xs) (.int k) H Q XO := h
theorem id_itR {l r : Expr} {n : Nat} {y : V} (h : Op2 c (subscriptTail l r) (.ref n) y H Q XO) : Op2 c (subscriptTail l r) (.ref n) y H Q XO := h
theorem id_op3 {n : Nat} {y z : V} {R : HA → Prop} (h : OpU3 c setItem (.ref n) y z H R) : OpU3 c setItem (.ref n) y z H R := h
theorem id_opu {n : Nat} {name : Str} {z : V} {R : HA → Prop} (h : OpU2 c (SetF name) (.ref n) z H R) : OpU2 c (SetF name) (.ref n) z H R := h
theorem id_len {xs : List V} {P : Prop} (h : xs.length ≤ 1000 ∧ P) : xs.length ≤ 1000 ∧ P := h
theorem id_mth {ov : V} {name : Str} {R : V → Prop} (h : ∃ fv, MethOk c ov name H fv ∧ R fv) : ∃ fv, MethOk c ov name H fv ∧ R fv := h
theorem id_cal {fv : V} {xs : List V} (h : CalleeOk c fv H ∧ CallW c fv xs H Q XO) : CalleeOk c fv H ∧ CallW c fv xs H Q XO := h
theorem id_get {x : V} {name : Str} (h : Op1 c (GetF name) x H Q XO) : Op1 c (GetF name) x H Q XO := h
end
section
variable {c : Cx} {H : HA} {Q : V → HA → Prop} {X : Addr → HA → Prop} {n : Nat} {C : Addr} {fs : List (Str × V)} {name : Str} {v : V} {K : Frag}
theorem op_getG (hK : c.B.K = K) (hn : H[n]? = some (.inst C fs)) (hv : fget name fs = some v) (hk : readOk K C name = true) (hb : isBi v = false) (hq : Q v H) : Op1 c (GetF name) (.ref n) H Q X := op_get hn hv (by rw [hK]; exact hk) hb hq
theorem op_setG {R : HA → Prop} (hK : c.B.K = K) (hn : H[n]? = some (.inst C fs)) (hk : storeOk K C name = true) (hz : fs.length ≤ 800) (hq : R (H.set n (.inst C (fset name v fs)))) : OpU2 c (SetF name) (.ref n) v H R := op_set hn (by rw [hK]; exact hk) hz hq
end
/-! small sums -/
theorem om0 {j k b : Nat} (h : k ≤ b) (r : Nat.ble j k = true) : j ≤ b := Nat.le_trans (Nat.le_of_ble_eq_true r) h
theorem om1 {j k a b : Nat} (e : a + 1 = b) (h : k ≤ b) (r : Nat.ble (j + 1) k = true) : j ≤ a := by have := Nat.le_of_ble_eq_true r; lia
theorem om2 {a j k : Nat} (h : a ≤ k) (r : Nat.ble k j = true) : a ≤ j := Nat.le_trans h (Nat.le_of_ble_eq_true r)
theorem om3 {a j k : Nat} (h : a ≤ k) (r : Nat.ble (k + 1) j = true) : a < j := Nat.lt_of_le_of_lt h (Nat.le_of_ble_eq_true r)
theorem on0 {n b : Nat} (r : Nat.ble 1 b = true) : n ≠ n + b := by have := Nat.le_of_ble_eq_true r; lia
theorem on1 {n b : Nat} (r : Nat.ble 1 b = true) : n + b ≠ n := by have := Nat.le_of_ble_eq_true r; lia
theorem on2 {n a b : Nat} (r : (a == b) = false) : n + a ≠ n + b := by have := beq_eq_false_iff_ne.mp r; lia
theorem on3 {n k : Nat} (h : n < k) : k ≠ n := Nat.ne_of_gt h
/-- what lay on the heap still lies there, but for some -/
noncomputable def Ext (ch : List Nat) (H H' : HA) : Prop := H.length ≤ H'.length ∧ ∀ i o, H[i]? = some o → i ∉ ch → H'[i]? = some o
theorem Ext.refl {ch : List Nat} {H : HA} : Ext ch H H := ⟨Nat.le_refl _, fun _ _ e _ => e⟩
theorem Ext.trans {ch : List Nat} {H H1 H2 : HA} (x : Ext ch H H1) (y : Ext ch H1 H2) : Ext ch H H2 := ⟨Nat.le_trans x.1 y.1, fun i o e n => y.2 i o (x.2 i o e n) n⟩
theorem Ext.app {ch : List Nat} {H H' t : HA} (x : Ext ch H H') : Ext ch H (H' ++ t) := ⟨by rw [List.length_append]; exact Nat.le_trans x.1 (Nat.le_add_right _ _), fun i o e n => hs_app (x.2 i o e n)⟩
theorem Ext.set {ch : List Nat} {H H' : HA} {k : Nat} {o : Ob} (x : Ext ch H H') (h : k ∈ ch) : Ext ch H (H'.set k o) := ⟨by rw [List.length_set]; exact x.1, fun i o e n => hs_skip (fun z => n (z ▸ h)) (x.2 i o e n)⟩
/-- a new object may be set anew -/
theorem Ext.setN {ch : List Nat} {H H' : HA} {k : Nat} {o : Ob} (x : Ext ch H H') (h : H.length ≤ k) : Ext ch H (H'.set k o) := ⟨by rw [List.length_set]; exact x.1, fun i o e n => hs_skip (fun z => by
  have := (List.getElem?_eq_some_iff.mp e).1; lia) (x.2 i o e n)⟩
theorem Ext.get {ch : List Nat} {H H' : HA} {k : Nat} {o : Ob} (x : Ext ch H H') (h : k ∉ ch) (e : H[k]? = some o) : H'[k]? = some o := x.2 k o e h
theorem Ext.mono {ch ch' : List Nat} {H H' : HA} (x : Ext ch H H') (h : ∀ i ∈ ch, i ∈ ch') : Ext ch' H H' := ⟨x.1, fun i o e n => x.2 i o e fun z => n (h i z)⟩
/-! ### SI -/
noncomputable def vNm (b : Bool) : V := .str (if b then ("B" : Str) else ("A" : Str))
noncomputable def tupS (K : Frag) (x : Str) : Option (List Str) := match nsIn K mainGlobals x with
  | some (some (.ref a)) => match K.lookup a with
    | some ⟨.type t, _, .seq vs _, _⟩ => if t == "tuple" then vs.toList.mapM (fun v => match v with | .str s _ => some s | _ => none) else none
    | _ => none
  | _ => none
theorem strs_of {B : Bx} {h : Heap} {ρ : Rho} : ∀ {vs : List Value} {ss : List Str}, vs.mapM (fun v => match v with | .str s _ => some s | _ => none) = some ss → VRs B h ρ (ss.map V.str) vs
  | [], ss, e => by simp at e; subst e; trivial
  | v :: vs, ss, e => by
    rw [List.mapM_cons] at e
    cases v with
    | str s t =>
      cases q : vs.mapM (fun v => match v with | .str s _ => some s | _ => none) with
      | none => rw [q] at e; cases e
      | some r => rw [q] at e; cases e; exact ⟨.str s t, strs_of q⟩
    | _ => cases e
theorem ev_tupS {c : Cx} {fa : FrA} {m : LM} {H : HA} {Q : V → HA → Prop} {X : Addr → LM → HA → Prop} {p : Params} {x : Str} {pos : Pos} {ss : List Str} (g : Gd c p) (h : tupS (KK p) x = some ss) (hx : fa.cs.names.lookup x = some .globalImplicit) (hq : Q (.tup (ss.map V.str)) H)
    (hd : (x == ("__debug__" : Str)) = false := by kernel_rfl) : EvW c fa (.Name x pos) m H Q X := by
  rw [← g.K] at h
  unfold tupS at h
  split at h
  · rename_i a ha
    split at h
    · rename_i t od vs n sl ho
      split at h
      · rename_i ht
        refine ev_globV ha hx (fun ρ h' k => ?_) hq hd
        have hv := strs_of (B := c.B) (h := h') (ρ := ρ) h
        have := k _ _ (c.B.X _ _ ho)
        refine .tup (vs := vs.toList) ⟨_, this, by rw [eq_of_beq ht], n, by simp⟩ (by simpa using hv.length) fun i x v e e' => hv.get i x v e e'
      · cases h
    · cases h
  · cases h
theorem t_LEAVES {p : Params} : tupS (KK p) ("LEAVES" : Str) = some [("whole" : Str), ("decimal" : Str), ("text" : Str)] := by kernel_rfl
theorem t_COMPARISONS {p : Params} : tupS (KK p) ("COMPARISONS" : Str) = some [("=" : Str), ("<>" : Str), ("<" : Str), (">" : Str), ("<=" : Str), (">=" : Str)] := by kernel_rfl
theorem t_LOGIC {p : Params} : tupS (KK p) ("LOGIC" : Str) = some [("AND" : Str), ("OR" : Str), ("XOR" : Str), ("EQV" : Str), ("IMP" : Str)] := by kernel_rfl
/-! ### orders -/
inductive Od where
  | row (i : Nat)
  | var
  | push (k : Int)
  | add
  | lt
  | store (b : Bool)
  | go (t : Nat)
  | tst (t : Nat)
  | fin
noncomputable def wOd : Od → Str
  | .row _ => ("ROW" : Str)
  | .var => ("VAR" : Str)
  | .push _ => ("PUSH" : Str)
  | .add => ("TWO" : Str)
  | .lt => ("TWO" : Str)
  | .store _ => ("STORE" : Str)
  | .go _ => ("GO" : Str)
  | .tst _ => ("FALSE" : Str)
  | .fin => ("END" : Str)
noncomputable def aOd : Od → List V
  | .row i => [.int i]
  | .var => [.str ("A" : Str)]
  | .push k => [.int k]
  | .add => [.str ("+" : Str)]
  | .lt => [.str ("<" : Str)]
  | .store b => [vNm b]
  | .go t => [.int t]
  | .tst t => [.int t]
  | .fin => []
noncomputable abbrev vOd (o : Od) : V := .tup (.str (wOd o) :: aOd o)
section
variable {c : Cx} {H : HA} {Q : V → HA → Prop} {X : Addr → HA → Prop}
theorem id_inT {x : Str} {ys : List Str} (h : Op2 c (compareOp .In) (.str x) (.tup (ys.map V.str)) H Q X) : Op2 c (compareOp .In) (.str x) (.tup (ys.map V.str)) H Q X := h
theorem op_inT_t {x : Str} {ys : List Str} (h : ys.any (· == x) = true) (hq : Q (.bool true) H) : Op2 c (compareOp .In) (.str x) (.tup (ys.map V.str)) H Q X := op_inT (by rw [h]; exact hq)
theorem op_inT_f {x : Str} {ys : List Str} (h : ys.any (· == x) = false) (hq : Q (.bool false) H) : Op2 c (compareOp .In) (.str x) (.tup (ys.map V.str)) H Q X := op_inT (by rw [h]; exact hq)
end
noncomputable def splitL : List V → Option (List V × V)
  | [] => none
  | a :: t => match t with
    | [] => some ([], a)
    | b :: r => match splitL (b :: r) with
      | some (ys, v) => some (a :: ys, v)
      | none => none
theorem splitL_eq : ∀ {xs ys : List V} {v : V}, splitL xs = some (ys, v) → xs = ys ++ [v]
  | [], _, _, e => by cases e
  | [a], _, _, e => by simp only [splitL] at e; cases e; rfl
  | a :: b :: r, ys, v, e => by
    simp only [splitL] at e
    split at e
    · rename_i ys' v' h
      cases e
      rw [splitL_eq h]; rfl
    · cases e
theorem splitL_cat {xs : List V} {v : V} : splitL (xs ++ [v]) = some (xs, v) := by
  induction xs with
  | nil => rfl
  | cons a t ih =>
    cases t with
    | nil => rfl
    | cons b r =>
      show (match splitL (b :: (r ++ [v])) with
        | some (ys, v) => some (a :: ys, v)
        | none => none) = _
      have ih' : splitL (b :: (r ++ [v])) = some (b :: r, v) := ih
      rw [ih']
section
variable {c : Cx} {fa : FrA} {m : LM} {H : HA} {Q : V → HA → Prop} {X : Addr → HA → Prop}
theorem fn_popL {n : Nat} {xs ys : List V} {v : V} (hn : H[n]? = some (.list xs)) (hx : splitL xs = some (ys, v)) (hz : xs.length ≤ 100000) (hq : Q v (H.set n (.list ys))) : OpN c (fun vs => call (.builtin "list.pop") vs) [.ref n] H Q X := by
  have e := splitL_eq hx
  subst e
  exact fn_pop hn (by rw [List.length_append] at hz; lia) hq
theorem id_cat {a b : Nat} (h : Op2 c (binaryOp .Add) (.ref a) (.ref b) H Q X) : Op2 c (binaryOp .Add) (.ref a) (.ref b) H Q X := h
end
theorem set_lst {H : HA} {a b : Ob} : (H ++ [a]).set H.length b = H ++ [b] := by
  rw [List.set_append_right _ _ (Nat.le_refl _), Nat.sub_self]; rfl
section
variable {c : Cx} {H : HA} {Q : V → HA → Prop} {X : Addr → HA → Prop} {k : Int} {n : Nat} {es : List (Int × V)} {v : V}
theorem id_inI (h : Op2 c (compareOp .In) (.int k) (.ref n) H Q X) : Op2 c (compareOp .In) (.int k) (.ref n) H Q X := h
theorem op_inI_t (hn : H[n]? = some (.dictI es)) (h : dget es k = some v) (hq : Q (.bool true) H) : Op2 c (compareOp .In) (.int k) (.ref n) H Q X := op_inI hn (by rw [h]; exact hq)
theorem id_ninI (h : Op2 c (compareOp .NotIn) (.int k) (.ref n) H Q X) : Op2 c (compareOp .NotIn) (.int k) (.ref n) H Q X := h
theorem op_ninI_t (hn : H[n]? = some (.dictI es)) (h : dget es k = none) (hq : Q (.bool true) H) : Op2 c (compareOp .NotIn) (.int k) (.ref n) H Q X := op_ninI hn (by rw [h]; exact hq)
theorem op_ninI_f (hn : H[n]? = some (.dictI es)) (h : dget es k = some v) (hq : Q (.bool false) H) : Op2 c (compareOp .NotIn) (.int k) (.ref n) H Q X := op_ninI hn (by rw [h]; exact hq)
end
theorem od_cases (o : Od) : (∃ t, o = .go t) ∨ (∃ t, o = .tst t) ∨ ((wOd o == ("GO" : Str)) = false ∧ (wOd o == ("FALSE" : Str)) = false ∧ (∀ t, o ≠ .go t) ∧ ∀ t, o ≠ .tst t) := by
  cases o
  case go t => exact .inl ⟨t, rfl⟩
  case tst t => exact .inr (.inl ⟨t, rfl⟩)
  all_goals exact .inr (.inr ⟨by kernel_rfl, by kernel_rfl, by simp, by simp⟩)
theorem go_GO {t : Nat} : (wOd (.go t) == ("GO" : Str)) = true := by kernel_rfl
theorem tst_GO {t : Nat} : (wOd (.tst t) == ("GO" : Str)) = false := by kernel_rfl
theorem tst_FALSE {t : Nat} : (wOd (.tst t) == ("FALSE" : Str)) = true := by kernel_rfl
noncomputable abbrev natV (st : List Nat) : List V := st.map fun q : Nat => V.int (q : Int)
theorem natV_get {st : List Nat} {i : Nat} (h : i < st.length) : (natV st)[((i : Nat) : Int).toNat]? = some (.int ((st.getD i 0 : Nat) : Int)) := by
  show (natV st)[i]? = _
  rw [List.getElem?_map, List.getElem?_eq_getElem h, List.getD_eq_getElem?_getD, List.getElem?_eq_getElem h]; rfl
theorem ite_nt {P R : Prop} (h : R) : if (!true) = true then P else R := h
theorem ite_nf {P R : Prop} (h : P) : if (!false) = true then P else R := h
theorem lt6 : ∀ {f : Nat}, f < 6 → f = 0 ∨ f = 1 ∨ f = 2 ∨ f = 3 ∨ f = 4 ∨ f = 5
  | 0, _ => .inl rfl
  | 1, _ => .inr (.inl rfl)
  | 2, _ => .inr (.inr (.inl rfl))
  | 3, _ => .inr (.inr (.inr (.inl rfl)))
  | 4, _ => .inr (.inr (.inr (.inr (.inl rfl))))
  | 5, _ => .inr (.inr (.inr (.inr (.inr rfl))))
  | n + 6, h => absurd h (Nat.not_lt.mpr (Nat.le_add_left 6 n))
section
variable {c : Cx} {fa : FrA} {m : LM} {H : HA} {Q : Bool → HA → Prop} {X : Addr → LM → HA → Prop} {x s w : Str} {p1 p2 p3 p4 p5 : Pos} {i : Int} {j1 j2 : Nat} {xs : List V}
/-- x[i] == "s", in one step -/
theorem ts_iS (b : Bool) (hv : m.lookup x = some (.tup xs)) (hi : xs[i.toNat]? = some (.str w)) (h : (w == s) = b) (hq : Q b H) (hx : fa.cs.names.lookup x = some .local := by kernel_rfl) (h0 : 0 ≤ i := by decide) (h1 : i < 1000000 := by decide) (hd : (x == ("__debug__" : Str)) = false := by kernel_rfl) :
    TsW c fa (.Compare (.Subscript (.Name x p1) (.Constant (.int i) j1 p2) p3) [.Eq] [.Constant (.str s) j2 p4] p5) m H Q X :=
  ts_cmp (ev_sub (ev_loc hv hx (ev_int (it_tup (t := 0) h0 h1 hi (ev_str (op_eqs (by rw [h]; exact hq))))) hd))
end
set_option maxHeartbeats 4000000
set_option compiler.extract_closed false
local macro_rules | `(tactic| kl_some) => `(tactic| first
  | (with_reducible first | assumption | exact Nat.le_refl _ | exact om0 ‹_› rfl | exact om1 ‹_› ‹_› rfl | exact Nat.le_add_right _ _ | exact om3 ‹_› rfl | exact om2 ‹_› rfl | exact on0 rfl | exact on1 rfl | exact on2 rfl | exact Int.natCast_nonneg _ | exact Int.ofNat_lt.mpr ‹_› | exact Nat.ne_of_lt ‹_› | exact Nat.ne_of_gt ‹_›)
  | lia)
local macro_rules | `(tactic| ki_room) => `(tactic| first | exact Nat.le_of_ble_eq_true rfl | kl_some | (simp only [List.length_append, List.length_cons, List.length_nil, List.length_map, List.length_set] <;> kl_some))
local macro_rules | `(tactic| kl_room) => `(tactic| first | with_reducible assumption | exact rfl | decide +kernel)
local macro_rules | `(tactic| k_units) => `(tactic| first | with_reducible assumption | rfl)
local macro_rules | `(tactic| kst_mem) => `(tactic| first
  | with_reducible assumption
  | with_reducible exact hs_last
  | ((with_reducible apply hs_here); kst_mem)
  | ((with_reducible refine' hs_skipO ?h ?e ?n); (case e => kst_mem); (case h => kst_mem); (case n => (intro z; cases z)))
  | ((with_reducible refine' hs_skip ?h ?e); (case h => first | with_reducible assumption | ((with_reducible apply Ne.symm); with_reducible assumption) | kl_some); (case e => kst_mem))
  | ((with_reducible apply hs_app); kst_mem))
local macro_rules | `(tactic| lcg_off) => `(tactic| first
  | (with_reducible first | assumption | exact lk_here | exact lk_set)
  | exact rfl
  | ((with_reducible apply lk_zip); lcg_off)
  | ((with_reducible first | apply lk_next | apply lk_skip); (· kernel_rfl); lcg_off))
local macro_rules | `(tactic| top_reprB) => `(tactic| first
  | (with_reducible first | assumption | exact Ext.refl)
  | ((with_reducible apply Ext.app); top_reprB)
  | ((with_reducible refine' Ext.setN ?x ?h); (case h => ki_room); (case x => top_reprB))
  | ((with_reducible refine' Ext.set ?x ?h); (case h => simp); (case x => top_reprB)))
local macro_rules | `(tactic| top_raise0) => `(tactic| (apply Eq.trans; (· kst_mem); (· rfl)))
local macro_rules | `(tactic| top_name) => `(tactic| first
    | ((with_reducible refine' ev_ty ?e ?b ?x ?_); (case e => (with_reducible first | exact n_str ‹_› | exact n_tuple ‹_› | exact n_int ‹_›)); (case b => (with_reducible first | exact b_str | exact b_tuple | exact b_int)); (case x => kernel_rfl))
    | ((with_reducible refine' ev_bi ?e ?b ?x ?_); (case e => (with_reducible first | exact n_isinstance ‹_› | exact n_len ‹_› | exact n_abs ‹_›)); (case b => (with_reducible first | exact b_isinstance | exact b_len | exact b_abs)); (case x => kernel_rfl))
    | ((with_reducible refine' ev_glob ?e ?x ?_); (case e => (with_reducible first
      | exact n_kind_of ‹_› | exact n_fits ‹_› | exact n_is_nought ‹_› | exact n_is_true ‹_› | exact n_truth ‹_› | exact n_is_whole ‹_› | exact n_settled ‹_› | exact n_whole_reckoned ‹_› | exact n_reckoned ‹_› | exact n_order_of ‹_› | exact n_compared ‹_› | exact n_worth_of_two ‹_› | exact n_worth_of_leaf ‹_› | exact n_leaf_order ‹_› | exact n_expression_orders ‹_› | exact n_target_orders ‹_› | exact n_row_orders ‹_› | exact n_led_to ‹_› | exact n_compile_rows ‹_› | exact n_goals_of ‹_› | exact n_known_tests ‹_› | exact n_last_goal ‹_› | exact n_thread_jumps ‹_› | exact n_put_row_of ‹_› | exact n_put_all ‹_› | exact n_gather ‹_› | exact n_flatten ‹_› | exact n_law_drawn ‹_› | exact n_law_rows ‹_› | exact n_law_walk ‹_› | exact n_law_is_ring ‹_› | exact n_moved_orders ‹_› | exact n_law_begun ‹_› | exact n_RowCode ‹_› | exact n_Flat ‹_› | exact n_PlainHooks ‹_› | exact n_RowWays ‹_› | exact n_RowRun ‹_›)); (case x => kernel_rfl))
    | ((with_reducible refine' ev_tupS (g := ?g) (h := ?h) (hx := ?x) (hq := ?q)); (case g => assumption); (case h => first | exact t_LEAVES | exact t_COMPARISONS | exact t_LOGIC); (case x => kernel_rfl))
    | ((with_reducible refine' ev_cell (hn := ?n) (hv := ?v) (hx := ?x) (hq := ?q)); (case x => rfl); (case n => rfl); (case v => kst_mem))
    | ((with_reducible refine' ev_free (hn := ?n) (hv := ?v) (hx := ?x) (hq := ?q)); (case x => rfl); (case n => rfl); (case v => kst_mem)))
local macro_rules | `(tactic| one_item) => `(tactic| first
    | (with_reducible first
      | refine xs_if ?_
      | refine xs_expr ?_
      | refine xs_ret ?_
      | refine xs_brk ?_
      | refine xs_cont ?_)
    | ((fail_if_success (fail_if_success (with_reducible refine id_asg ?_))); (refine' xs_asg ?h ?x); (case x => kernel_rfl))
    | (with_reducible first
      | refine xs_asgA ?_
      | refine xs_asgI ?_)
    | ((fail_if_success (fail_if_success (with_reducible refine id_asg2 ?_))); (refine' xs_asg2 (hn := ?n) (h := ?h) (hs := ?s) (hw := ?w) (hx1 := ?x) (hx2 := ?y)); (case n => assumption); (case s => (intro _; rfl)); (case w => (refine scope_eq ?_; intros; rfl)); (case x => kernel_rfl); (case y => kernel_rfl))
    | ((fail_if_success (fail_if_success (with_reducible refine id_asg3 ?_))); (refine' xs_asg3 (hn := ?n) (h := ?h) (hs := ?s) (hw := ?w) (hx1 := ?x) (hx2 := ?y) (hx3 := ?z)); (case n => assumption); (case s => (intro _; rfl)); (case w => (refine scope_eq ?_; intros; rfl)); (case x => kernel_rfl); (case y => kernel_rfl); (case z => kernel_rfl))
    | ((fail_if_success (fail_if_success (with_reducible refine id_asgT ?_))); (refine' xs_asgT ?h ?s ?w); (case s => (intro _; rfl)); (case w => (intro _ _; rfl)))
    | ((with_reducible refine' xs_try ?x ?r ?h); (case x => exact x_BE (by assumption)); (case r => rfl)))
local macro_rules | `(tactic| one_sign) => `(tactic| first
    | ((with_reducible first | apply op_lt_t | apply op_gt_t | apply op_le_t | apply op_ge_t | apply op_eq_t | apply op_ne_t); (· ki_room))
    | ((with_reducible first | apply op_lt_f | apply op_gt_f | apply op_le_f | apply op_eq_f | apply op_ne_f); (· ki_room))
    | (with_reducible first | refine op_lt ?_ | refine op_gt ?_ | refine op_le ?_ | refine op_ge ?_ | refine op_eq ?_ | refine op_ne ?_))
local macro_rules | `(tactic| one_place) => `(tactic| first
    | ((with_reducible first | apply op_eqs_t | apply op_nes_t); (· kl_room))
    | ((with_reducible first | apply op_eqs_f | apply op_nes_f | apply op_neb_f); (· kl_room))
    | (with_reducible first | refine op_eqs ?_ | refine op_nes ?_ | refine op_eqb ?_ | refine op_neb ?_))
local macro_rules | `(tactic| nest_room) => `(tactic| first
    | ((with_reducible first | apply fn_append | apply fn_len | apply fn_reverse); (· kst_mem); (· ki_room))
    | ((with_reducible apply fn_extend); (· kst_mem); (· kst_mem); (· ki_room))
    | ((with_reducible apply fn_popL); (· kst_mem); (· k_units); (· ki_room))
    | (with_reducible first | refine fn_isS ?_ | refine fn_isT ?_ | refine fn_int ?_ | refine fn_abs ?_))
local macro_rules | `(tactic| w_left) => `(tactic| first
    | ((with_reducible first | refine' ⟨_, meth_list ?n PySem.F.slot_list_append ?t, ?_⟩ | refine' ⟨_, meth_list ?n PySem.F.slot_list_extend ?t, ?_⟩ | refine' ⟨_, meth_list ?n PySem.F.slot_list_pop ?t, ?_⟩ | refine' ⟨_, meth_list ?n PySem.F.slot_list_reverse ?t, ?_⟩); (case n => kst_mem); (case t => kernel_rfl))
    | ((with_reducible refine' ⟨_, meth_inst ?n ?k ?o, ?_⟩); (case n => kst_mem); (case k => (with_reducible first | exact me_PlainHooks_value_of_name ‹_› | exact me_RowRun_place_of ‹_› | exact me_RowRun_taken ‹_› | exact me_RowRun_go_from ‹_› | exact me_RowRun_done ‹_› | exact me_RowRun_value_of ‹_›)); (case o => rfl)))
local macro_rules | `(tactic| tlg_ne) => `(tactic| first
  | ((fail_if_success (fail_if_success (with_reducible refine id_name ?_))); (first
    | ((with_reducible refine' ev_loc (hv := ?v) (hx := ?x) (hq := ?q)); (case x => kernel_rfl); (case v => lcg_off))
    | top_name))
  | ((fail_if_success (fail_if_success (with_reducible refine id_ev ?_))); (with_reducible first
    | refine ev_str ?_
    | refine ev_int ?_
    | refine ev_sub ?_
    | refine ev_attr ?_
    | refine ev_tup ?_
    | refine ev_meth ?_
    | refine ev_call ?_
    | refine ev_cmp ?_
    | refine ev_chain ?_
    | refine ev_bin ?_
    | refine ev_un ?_
    | refine ev_if ?_
    | refine ev_list ?_
    | refine ev_and ?_
    | refine ev_and1 ?_
    | refine ev_none ?_
    | refine ev_bool ?_))
  | (with_reducible first
    | refine ex_cons ?_
    | refine ex_nil ?_
    | refine ar_cons ?_
    | refine ar_nil ?_)
  | ((fail_if_success (fail_if_success (with_reducible refine id_op2 ?_))); (first
    | ((with_reducible refine' it_tup (t := 0) (h0 := ?h) (h1 := ?k) (hx := ?x) (hq := ?q)); (case h => decide); (case k => decide); (case x => rfl))
    | ((with_reducible refine' it_list (hn := ?n) (h0 := ?h) (h1 := ?k) (hx := ?x) (hq := ?q)); (case n => kst_mem); (case h => first | decide | kl_some); (case k => first | decide | kl_some); (case x => k_units))
    | ((with_reducible first | refine' it_dictI (hn := ?n) (hx := ?x) (hq := ?q) | refine' it_dictS (hn := ?n) (hx := ?x) (hq := ?q)); (case n => kst_mem); (case x => k_units))
    | ((fail_if_success (fail_if_success (with_reducible refine id_cmpS ?_))); one_place)
    | ((fail_if_success (fail_if_success (with_reducible refine id_cmpI ?_))); one_sign)
    | ((fail_if_success (fail_if_success (with_reducible refine id_cmpB ?_))); one_place)
    | (with_reducible first
      | refine op_add ?_
      | refine op_sub ?_
      | refine op_subb ?_)
    | ((with_reducible apply op_inI_t); (· kst_mem); (· with_reducible assumption))
    | ((with_reducible apply op_ninI_t); (· kst_mem); (· with_reducible assumption))
    | ((with_reducible apply op_ninI_f); (· kst_mem); (· with_reducible assumption))
    | ((with_reducible refine' op_inT_t ?h ?_); (case h => kl_room))
    | ((with_reducible refine' op_inT_f ?h ?_); (case h => kl_room))
    | ((with_reducible apply op_cat); (· kst_mem); (· kst_mem); (· ki_room))))
  | ((with_reducible refine' ts_iS true ?v ?i ?h ?_); (case v => lcg_off); (case i => rfl); (case h => kl_room))
  | ((with_reducible refine' ts_iS false ?v ?i ?h ?_); (case v => lcg_off); (case i => rfl); (case h => kl_room))
  | (with_reducible first
    | refine ts_cmp ?_
    | refine ts_not ?_
    | refine ts_bool ?_
    | refine ts_val ?_)
  | (with_reducible first
    | refine ite_t ?_
    | refine ite_f ?_
    | refine ite_nt ?_
    | refine ite_nf ?_)
  | ((fail_if_success (fail_if_success (with_reducible refine id_xs ?_))); one_item)
  | ((fail_if_success (fail_if_success (with_reducible refine id_op1 ?_))); (first
    | ((with_reducible apply op_getG); (· exact Gd.K ‹_›); (· kst_mem); (· k_units); (· kernel_rfl); (· rfl))
    | (with_reducible first
      | refine op_neg ?_
      | refine op_not ?_)))
  | ((fail_if_success (fail_if_success (with_reducible refine id_len ?_))); ((with_reducible refine' len_and ?h ?_); (case h => (simp only [List.length_cons, List.length_nil]; decide))))
  | ((fail_if_success (fail_if_success (with_reducible refine id_cal ?_))); (first
    | (with_reducible first | refine ⟨keep_bi, CallW.bi ?_⟩ | refine ⟨keep_ty, CallW.ty ?_⟩)
    | ((with_reducible refine' ⟨keep_G (hK := ?h) (hk := ?k), ?_⟩); (case h => exact Gd.K ‹_›); (case k => kernel_rfl))))
  | ((fail_if_success (fail_if_success (with_reducible refine id_call ?_))); (first | with_reducible refine CallW.bi ?_ | nest_fact))
  | ((fail_if_success (fail_if_success (with_reducible refine id_mth ?_))); w_left)
  | ((fail_if_success (fail_if_success (with_reducible refine id_opN ?_))); nest_room)
  | (with_reducible first
    | refine and_cons ?_
    | refine or_cons ?_
    | refine and_nil ?_
    | refine or_nil ?_
    | refine tgs_cons ?_
    | refine tgs_nil ?_)
  | ((with_reducible apply tg_name); (· kernel_rfl))
  | ((with_reducible refine' tg_tup (hn := ?n) (h := ?h) (hl := ?l)); (case n => assumption); (case l => (simp only [List.length_cons, List.length_nil])))
  | ((with_reducible apply op_setG); (· exact Gd.K ‹_›); (· kst_mem); (· kernel_rfl); (· exact Nat.le_of_ble_eq_true rfl))
  | ((with_reducible apply set_list); (· kst_mem); (· decide); (· simp); (· decide)))
/-! ### SB -/
section
variable {c : Cx} {p : Params} {H : HA} {Q : V → HA → Prop} {X : Addr → HA → Prop}
theorem sp_kind_of (g : Gd c p) (hd : 1 ≤ c.d) {i : Int} (hq : Q (.str ("whole" : Str)) H) : CallW c (.glob 44) [.int i] H Q X := by
  refine (fn_go g f_kind_of rfl hd fun c' g' hv hd' => ?_).call
  conv => arg 3; whnf
  repeat tlg_ne
  exact hq
end
local macro_rules | `(tactic| nest_fact) => `(tactic| ((with_reducible refine' sp_kind_of ‹_› ?_ ?_); (· kl_some)))
section
variable {c : Cx} {p : Params} {H : HA} {Q : V → HA → Prop} {X : Addr → HA → Prop}
theorem sp_is_nought (g : Gd c p) (hd : 1 ≤ c.d) {i : Int} (hq : Q (.bool (i == 0)) H) : CallW c (.glob 107) [.int i] H Q X := by
  refine (fn_go g f_is_nought rfl hd fun c' g' hv hd' => ?_).call
  conv => arg 3; whnf
  repeat tlg_ne
  exact hq
end
local macro_rules | `(tactic| nest_fact) => `(tactic| ((with_reducible refine' sp_is_nought ‹_› ?_ ?_); (· kl_some)))
section
variable {c : Cx} {p : Params} {H : HA} {Q : V → HA → Prop} {X : Addr → HA → Prop}
theorem sp_is_true (g : Gd c p) (hd : 2 ≤ c.d) {i : Int} (hq : Q (.bool (!(i == 0))) H) : CallW c (.glob 114) [.int i] H Q X := by
  refine (fn_go g f_is_true rfl (by kl_some) fun c' g' hv hd' => ?_).call
  conv => arg 3; whnf
  repeat tlg_ne
  exact hq
theorem sp_truth (g : Gd c p) (hd : 1 ≤ c.d) {b : Bool} (hq : Q (.int (if b then -1 else 0)) H) : CallW c (.glob 121) [.bool b] H Q X := by
  refine (fn_go g f_truth rfl hd fun c' g' hv hd' => ?_).call
  conv => arg 3; whnf
  repeat tlg_ne
  cases b <;> (repeat tlg_ne) <;> exact hq
theorem sp_fits (g : Gd c p) (hd : 1 ≤ c.d) {i : Int} (hi : -1000 ≤ i) (hi' : i ≤ 1000) (hq : Q (.bool true) H) : CallW c (.glob 79) [.int i, .int 16] H Q X := by
  refine (fn_go g f_fits rfl hd fun c' g' hv hd' => ?_).call
  conv => arg 3; whnf
  repeat tlg_ne
  refine op_shl (by decide) (by decide) (by decide) ?_
  repeat tlg_ne
  refine op_shl (by decide) (by decide) (by decide) ?_
  repeat tlg_ne
  exact hq
end
local macro_rules | `(tactic| nest_fact) => `(tactic| ((with_reducible refine' sp_fits ‹_› ?_ ?_ ?_ ?_); (· kl_some); (· kl_some); (· kl_some)))
section
variable {c : Cx} {p : Params} {H : HA} {Q : V → HA → Prop} {X : Addr → HA → Prop}
end
local macro_rules | `(tactic| nest_fact) => `(tactic| ((with_reducible refine' sp_truth ‹_› ?_ ?_); (· kl_some)))
section
variable {c : Cx} {p : Params} {H : HA} {Q : V → HA → Prop} {X : Addr → HA → Prop}
theorem sp_is_whole (g : Gd c p) (hd : 1 ≤ c.d) {i : Int} (hq : Q (.bool true) H) : CallW c (.glob 199) [.int i] H Q X := by
  refine (fn_go g f_is_whole rfl hd fun c' g' hv hd' => ?_).call
  conv => arg 3; whnf
  repeat tlg_ne
  exact hq
end
local macro_rules | `(tactic| nest_fact) => `(tactic| ((with_reducible refine' sp_is_whole ‹_› ?_ ?_); (· kl_some)))
section
variable {c : Cx} {p : Params} {H : HA} {Q : V → HA → Prop} {X : Addr → HA → Prop}
theorem sp_settled (g : Gd c p) (hd : 2 ≤ c.d) {i : Int} (hi : -1000 ≤ i) (hi' : i ≤ 1000) (hq : Q (.int i) H) : CallW c (.glob 206) [.int i, .int 16, .int 9] H Q X := by
  refine (fn_go g f_settled rfl (by kl_some) fun c' g' hv hd' => ?_).call
  conv => arg 3; whnf
  repeat tlg_ne
  exact hq
end
local macro_rules | `(tactic| nest_fact) => `(tactic| ((with_reducible refine' sp_settled ‹_› ?_ ?_ ?_ ?_); (· kl_some); (· kl_some); (· kl_some)))
section
variable {c : Cx} {p : Params} {H : HA} {Q : V → HA → Prop} {X : Addr → HA → Prop}
theorem sp_whole_reckoned (g : Gd c p) (hd : 3 ≤ c.d) {i j : Int} (hi : -1000 ≤ i + j) (hi' : i + j ≤ 1000) (hq : Q (.int (i + j)) H) : CallW c (.glob 213) [.str ("+" : Str), .int i, .int j, .int 16, .int 9] H Q X := by
  refine (fn_go g f_whole_reckoned rfl (by kl_some) fun c' g' hv hd' => ?_).call
  conv => arg 3; whnf
  repeat tlg_ne
  exact hq
end
local macro_rules | `(tactic| nest_fact) => `(tactic| ((with_reducible refine' sp_whole_reckoned ‹_› ?_ ?_ ?_ ?_); (· kl_some); (· kl_some); (· kl_some)))
section
variable {c : Cx} {p : Params} {H : HA} {Q : V → HA → Prop} {X : Addr → HA → Prop}
theorem sp_order_of (g : Gd c p) (hd : 2 ≤ c.d) {i j : Int} (hq : Q (.int (b2i (decide (j < i)) - b2i (decide (i < j)))) H) : CallW c (.glob 269) [.int i, .int j] H Q X := by
  refine (fn_go g f_order_of rfl (by kl_some) fun c' g' hv hd' => ?_).call
  conv => arg 3; whnf
  repeat tlg_ne
  exact hq
end
local macro_rules | `(tactic| nest_fact) => `(tactic| ((with_reducible refine' sp_order_of ‹_› ?_ ?_); (· kl_some)))
section
variable {c : Cx} {p : Params} {H : HA} {Q : V → HA → Prop} {X : Addr → HA → Prop}
theorem sp_compared (g : Gd c p) (hd : 2 ≤ c.d) {o : Int} (hq : Q (.int (if decide (o < 0) then -1 else 0)) H) : CallW c (.glob 299) [.str ("<" : Str), .int o] H Q X := by
  refine (fn_go g f_compared rfl (by kl_some) fun c' g' hv hd' => ?_).call
  conv => arg 3; whnf
  repeat tlg_ne
  have e : (if (decide (o < 0) == true) = true then (-1 : Int) else 0) = (if decide (o < 0) then -1 else 0) := by simp
  rw [e]
  exact hq
end
local macro_rules | `(tactic| nest_fact) => `(tactic| ((with_reducible refine' sp_compared ‹_› ?_ ?_); (· kl_some)))
section
variable {c : Cx} {p : Params} {H : HA} {Q : V → HA → Prop} {X : Addr → HA → Prop}
theorem sp_reckoned (g : Gd c p) (hd : 4 ≤ c.d) (hn : c.hv = none) {i j : Int} (hi : -1000 ≤ i + j) (hi' : i + j ≤ 1000) (hq : Q (.int (i + j)) H) : CallW c (.glob 255) [.str ("+" : Str), .int i, .int j, .int 16, .int 9] H Q X := by
  refine (fn_go g f_reckoned rfl (by kl_some) fun c' g' hv hd' => ?_).call
  rw [hn] at hv
  conv => arg 3; whnf
  repeat tlg_ne
  exact hq
end
local macro_rules | `(tactic| nest_fact) => `(tactic| ((with_reducible refine' sp_reckoned ‹_› ?_ ‹_› ?_ ?_ ?_); (· kl_some); (· kl_some); (· kl_some)))
section
variable {c : Cx} {p : Params} {H : HA} {Q : V → HA → Prop} {X : Addr → HA → Prop}
theorem sp_worth_of_leaf (g : Gd c p) (hd : 2 ≤ c.d) {i : Int} (hn : c.hv = none) (hi : -1000 ≤ i) (hi' : i ≤ 1000) (hq : Q (.int i) H) : CallW c (.glob 325) [.tup [.str ("whole" : Str), .int i], .int 16, .int 9] H Q X := by
  refine (fn_go g f_worth_of_leaf rfl (by kl_some) fun c' g' hv hd' => ?_).call
  rw [hn] at hv
  conv => arg 3; whnf
  repeat tlg_ne
  exact hq
end
local macro_rules | `(tactic| nest_fact) => `(tactic| ((with_reducible refine' sp_worth_of_leaf ‹_› ?_ ‹_› ?_ ?_ ?_); (· kl_some); (· kl_some); (· kl_some)))
/-! ### SD -/
section
variable {c : Cx} {p : Params} {H : HA} {Q : V → HA → Prop} {X : Addr → HA → Prop}
theorem sp_leaf_order (g : Gd c p) (hd : 3 ≤ c.d) {i : Int} (hn : c.hv = none) (hi : -1000 ≤ i) (hi' : i ≤ 1000) (hq : Q (.tup [.str ("PUSH" : Str), .int i]) H) : CallW c (.glob 354) [.tup [.str ("whole" : Str), .int i], .int 16, .int 9] H Q X := by
  refine (fn_go g f_leaf_order rfl (by kl_some) fun c' g' hv hd' => ?_).call
  rw [hn] at hv
  conv => arg 3; whnf
  repeat tlg_ne
  exact hq
theorem sp_put_row_of (g : Gd c p) (hd : 1 ≤ c.d) {n r : Nat} {l : Int} {st : V} {xs : List V} {fs : List (Str × V)} (hn : c.hv = none) (hf : H[n]? = some (.inst 439 fs)) (hr : fget ("rows" : Str) fs = some (.ref r)) (hx : H[r]? = some (.list xs)) (hz : xs.length ≤ 1000)
    (hq : Q (.int (((xs ++ [V.tup [.int l, st]]).length : Int) - 1)) (H.set r (.list (xs ++ [V.tup [.int l, st]])))) : CallW c (.glob 450) [.ref n, .int l, st] H Q X := by
  refine (fn_go g f_put_row_of rfl (by kl_some) fun c' g' hv hd' => ?_).call
  rw [hn] at hv
  conv => arg 3; whnf
  repeat tlg_ne
  exact hq
end
local macro_rules | `(tactic| nest_fact) => `(tactic| ((with_reducible refine' sp_leaf_order ‹_› ?_ ‹_› ?_ ?_ ?_); (· kl_some); (· kl_some); (· kl_some)))
local macro_rules | `(tactic| nest_fact) => `(tactic| ((with_reducible refine' sp_put_row_of ‹_› ?_ ‹_› ?_ ?_ ?_ ?_ ?_); (· kl_some); (· kst_mem); (· assumption); (· kst_mem); (· kl_some)))
/-! ### SE -/
section
variable {c : Cx} {p : Params} {H : HA} {Q : V → HA → Prop} {X : Addr → HA → Prop}
theorem sp_drawn (g : Gd c p) (hd : 1 ≤ c.d) {n l : Nat} {ns : List Int} {spot w below : Int} (hnl : n ≠ l) (hn : c.hv = none) (h1 : H[n]? = some (.list [.ref l, .int spot, .int w])) (h2 : H[l]? = some (.list (ns.map .int))) (hs : 0 ≤ spot) (hs' : spot ≤ 100) (hw : 0 ≤ w) (hw' : w ≤ 6)
    (hb : 0 < below) (hz : ns.length ≤ 40) (hq : ∀ v : Int, 0 ≤ v → v < below → Q (.int v) (H.set n (.list [.ref l, .int (spot + 1), .int w]))) : CallW c (.glob 632) [.ref n, .int below] H Q X := by
  refine (fn_go g f_law_drawn rfl (by kl_some) fun c' g' hv hd' => ?_).call
  rw [hn] at hv
  conv => arg 3; whnf
  repeat tlg_ne
  by_cases hlt : spot < ((ns.map V.int).length : Int)
  · rw [decide_eq_true hlt]
    rw [List.length_map] at hlt
    repeat tlg_ne
    have hl : spot.toNat < ns.length := by lia
    refine it_list (v := .int ns[spot.toNat]) (by kst_mem) hs (by kl_some) (by simp [hl]) ?_
    repeat tlg_ne
    refine op_mod (by kl_some) ?_
    exact hq _ (Int.fmod_nonneg_of_pos _ hb) (Int.fmod_lt_of_pos _ hb)
  · rw [decide_eq_false hlt]
    repeat tlg_ne
    refine op_mul (.of_left (by decide)) ?_
    repeat tlg_ne
    refine op_fdiv (by decide) (by kl_some) (by decide) ?_
    repeat tlg_ne
    refine op_mod (by kl_some) ?_
    exact hq _ (Int.fmod_nonneg_of_pos _ hb) (Int.fmod_lt_of_pos _ hb)
end
/-! ### SF -/
/-! ### rows -/
inductive Rw where
  | let_ (b : Bool) (k : Nat)
  | less (k goal : Nat)
  | known (k goal : Nat)
  | jump (goal : Nat)
  | goto (goal : Nat)
  | rem
noncomputable def wRow : Rw → Str
  | .let_ _ _ => ("LET" : Str)
  | .less _ _ => ("IFNOT" : Str)
  | .known _ _ => ("IFNOT" : Str)
  | .jump _ => ("JUMP" : Str)
  | .goto _ => ("GOTO" : Str)
  | .rem => ("REM" : Str)
noncomputable def aRow : Rw → List V
  | .let_ b k => [.tup [.str ("name" : Str), vNm b], .tup [.str ("two" : Str), .str ("+" : Str), .tup [.str ("name" : Str), .str ("A" : Str)], .tup [.str ("whole" : Str), .int k]]]
  | .less k g => [.tup [.str ("two" : Str), .str ("<" : Str), .tup [.str ("name" : Str), .str ("A" : Str)], .tup [.str ("whole" : Str), .int (4 * (k : Int))]], .int g]
  | .known k g => [.tup [.str ("whole" : Str), .int k], .int g]
  | .jump g => [.int g]
  | .goto g => [.int (10 + g)]
  | .rem => [.str ("" : Str)]
noncomputable abbrev vRow (r : Rw) : V := .tup (.str (wRow r) :: aRow r)
noncomputable def Rw.Ok (n : Nat) : Rw → Prop
  | .let_ _ k => k ≤ 2
  | .less k g => k ≤ 2 ∧ g ≤ n
  | .known k g => k ≤ 2 ∧ g ≤ n
  | .jump g => g ≤ n
  | .goto g => g ≤ n
  | .rem => True
section
variable {c : Cx} {p : Params} {H : HA} {Q : V → HA → Prop} {X : Addr → HA → Prop}
theorem sp_drawE (g : Gd c p) (hd : 1 ≤ c.d) {n l : Nat} {ns : List Int} {spot w below : Int} (hnl : n ≠ l) (hn : c.hv = none) (h1 : H[n]? = some (.list [.ref l, .int spot, .int w])) (h2 : H[l]? = some (.list (ns.map .int))) (hs : 0 ≤ spot) (hs' : spot ≤ 100) (hw : 0 ≤ w) (hw' : w ≤ 6)
    (hb : 0 < below) (hz : ns.length ≤ 40) (hq : ∀ (v : Nat) H', (v : Int) < below → Ext [n] H H' → H'[n]? = some (.list [.ref l, .int (spot + 1), .int w]) → H'[l]? = some (.list (ns.map .int)) → Q (.int v) H') : CallW c (.glob 632) [.ref n, .int below] H Q X :=
  sp_drawn g hd hnl hn h1 h2 hs hs' hw hw' hb hz fun v h0 h3 => by
    obtain ⟨k, rfl⟩ : ∃ k : Nat, v = k := ⟨v.toNat, by lia⟩
    exact hq k _ h3 (Ext.refl.set (List.mem_singleton.mpr rfl)) (hs_here h1) (hs_skip hnl h2)
theorem sp_law_rows (g : Gd c p) (hd : 2 ≤ c.d) {n l : Nat} {ns : List Int} {w : Int} (hnl : n ≠ l) (hn : c.hv = none) (h1 : H[n]? = some (.list [.ref l, .int 0, .int w])) (h2 : H[l]? = some (.list (ns.map .int))) (hw : 0 ≤ w) (hw' : w ≤ 6) (hz : ns.length ≤ 40)
    (hq : ∀ (rows : List Rw) (f : Nat) H', 2 ≤ rows.length → rows.length ≤ 7 → (∀ r ∈ rows, r.Ok rows.length) → Ext [n] H H' → H.length ≤ f → H'[f]? = some (.list (rows.map vRow)) → Q (.ref f) H') : CallW c (.glob 639) [.ref n] H Q X := by
  have hnH : n < H.length := (List.getElem?_eq_some_iff.mp h1).1
  have hlH : l < H.length := (List.getElem?_eq_some_iff.mp h2).1
  refine (fn_go g f_law_rows rfl (by kl_some) fun c' g' hv hd' => ?_).call
  rw [hn] at hv
  conv => arg 3; whnf
  repeat tlg_ne
  refine sp_drawE g' (by kl_some) hnl hv h1 h2 (by kl_some) (by kl_some) hw hw' (by kl_some) hz fun k H1 hk x1 y1 z1 => ?_
  have hl1 := x1.1
  repeat tlg_ne
  obtain ⟨I, hI⟩ : ∃ I : Nat → LM → HA → Prop, ∀ i m' H', I i m' H' ↔ (∃ (rows : List Rw) (spot : Int), rows.length = i ∧ 0 ≤ spot ∧ spot ≤ 1 + 3 * i ∧ (∀ r ∈ rows, r.Ok (2 + k)) ∧ m'.lookup ("source" : Str) = some (.ref n) ∧ m'.lookup ("many" : Str) = some (.int ((2 + k : Nat) : Int)) ∧ m'.lookup ("found" : Str) = some (.ref H1.length) ∧
    Ext [n] H H' ∧ H'[n]? = some (.list [.ref l, .int spot, .int w]) ∧ H'[l]? = some (.list (ns.map .int)) ∧ H'[H1.length]? = some (.list (rows.map vRow))) := ⟨_, fun _ _ _ => Iff.rfl⟩
  have hE : ∀ i m' H', I i m' H' → ∀ C : Prop, (∀ (rows : List Rw) (spot : Int), rows.length = i → 0 ≤ spot → spot ≤ 1 + 3 * i → ((∀ r ∈ rows, r.Ok (2 + k))) → m'.lookup ("source" : Str) = some (.ref n) → m'.lookup ("many" : Str) = some (.int ((2 + k : Nat) : Int)) → m'.lookup ("found" : Str) = some (.ref H1.length) → Ext [n] H H' → H'[n]? = some (.list [.ref l, .int spot, .int w]) → H'[l]? = some (.list (ns.map .int)) → H'[H1.length]? = some (.list (rows.map vRow)) → C) → C := fun _ _ _ h C z => by obtain ⟨rows, spot, v1, v2, v3, v4, v5, v6, v7, v8, v9, v10, v11⟩ := (hI _ _ _).1 h; exact z rows spot v1 v2 v3 v4 v5 v6 v7 v8 v9 v10 v11
  refine xs_for_range (N := ((2 + k : Nat) : Int)) I hv ⟨n_range g', b_range, by kernel_rfl, by decide +kernel, by decide +kernel⟩ ?hit (by kl_some) (by kl_some) ?turn ?done
  case hit =>
    repeat tlg_ne
    have hN : (V.int ((2 + k : Nat) : Int)) = V.int (2 + (k : Int)) := by simp
    refine ⟨hN.symm, (hI _ _ _).2 ⟨[], 0 + 1, rfl, by decide, by simp, by simp, by lcg_off, ?_, by lcg_off, x1.app, by kst_mem, by kst_mem, hs_last⟩⟩
    rw [hN]; lcg_off
  case turn =>
    intro i m' H2 hi h00
    refine hE _ _ _ h00 _ fun rows spot hl hs0 hs1 hrows e1 e2 e3 x2 y2 z2 w2 => ?_
    have hFn : H1.length ≠ n := by lia
    have hFl : H1.length ≠ l := by lia
    repeat tlg_ne
    refine sp_drawE g' (by kl_some) hnl hv y2 z2 hs0 (by kl_some) hw hw' (by kl_some) hz fun f H3 hf x3 y3 z3 => ?_
    replace w2 := x3.get (by simpa using hFn) w2
    replace x2 := x2.trans x3
    clear x3 y2 z2
    repeat tlg_ne
    refine sp_drawE g' (by kl_some) hnl hv y3 z3 (by kl_some) (by kl_some) hw hw' (by kl_some) hz fun gl H4 hg x4 y4 z4 => ?_
    replace w2 := x4.get (by simpa using hFn) w2
    replace x2 := x2.trans x4
    clear x4 y3 z3
    repeat tlg_ne
    refine sp_drawE g' (by kl_some) hnl hv y4 z4 (by kl_some) (by kl_some) hw hw' (by kl_some) hz fun nu H5 hu x5 y5 z5 => ?_
    replace w2 := x5.get (by simpa using hFn) w2
    replace x2 := x2.trans x5
    clear x5 y4 z4
    have key : ∀ (r : Rw) (m' : LM) (H' : HA), r.Ok (2 + k) → m'.lookup ("source" : Str) = some (.ref n) → m'.lookup ("many" : Str) = some (.int ((2 + k : Nat) : Int)) → m'.lookup ("found" : Str) = some (.ref H1.length) → Ext [n] H H' → H'[n]? = some (.list [.ref l, .int (spot + 1 + 1 + 1), .int w]) → H'[l]? = some (.list (ns.map .int)) → H'[H1.length]? = some (.list (rows.map vRow ++ [vRow r])) →
        I (i + 1) m' H' :=
      fun r m' H' hr l1 l2 l3 x y z w => (hI _ _ _).2 ⟨rows ++ [r], spot + 1 + 1 + 1, by simp [hl], by lia, by lia, fun q hq => by
        rcases List.mem_append.mp hq with hq | hq
        · exact hrows q hq
        · rw [List.mem_singleton.mp hq]; exact hr, l1, l2, l3, x, y, z, by rw [List.map_append]; exact w⟩
    clear hnH hlH h1 h2 hrows
    rcases lt6 (by kl_some : f < 6) with rfl | rfl | rfl | rfl | rfl | rfl
    all_goals repeat tlg_ne
    · exact key (.let_ false nu) _ _ (by show nu ≤ 2; lia) (by lcg_off) (by lcg_off) (by lcg_off) (x2.app.setN hl1) (by kst_mem) (by kst_mem) (hs_here (hs_app w2))
    · exact key (.let_ true nu) _ _ (by show nu ≤ 2; lia) (by lcg_off) (by lcg_off) (by lcg_off) (x2.app.setN hl1) (by kst_mem) (by kst_mem) (hs_here (hs_app w2))
    · refine op_mul (.of_left (by decide)) ?_
      repeat tlg_ne
      exact key (.less nu gl) _ _ (by show nu ≤ 2 ∧ gl ≤ 2 + k; lia) (by lcg_off) (by lcg_off) (by lcg_off) (x2.setN hl1) (by kst_mem) (by kst_mem) (hs_here w2)
    · exact key (.known nu gl) _ _ (by show nu ≤ 2 ∧ gl ≤ 2 + k; lia) (by lcg_off) (by lcg_off) (by lcg_off) (x2.setN hl1) (by kst_mem) (by kst_mem) (hs_here w2)
    · exact key (.jump gl) _ _ (by show gl ≤ 2 + k; lia) (by lcg_off) (by lcg_off) (by lcg_off) (x2.setN hl1) (by kst_mem) (by kst_mem) (hs_here w2)
    · exact key (.goto gl) _ _ (by show gl ≤ 2 + k; lia) (by lcg_off) (by lcg_off) (by lcg_off) (x2.setN hl1) (by kst_mem) (by kst_mem) (hs_here w2)
  case done =>
    intro m' H2 h00
    refine hE _ _ _ h00 _ fun rows spot hl hs0 hs1 hrows e1 e2 e3 x2 y2 z2 w2 => ?_
    repeat tlg_ne
    have hl' : rows.length = 2 + k := by lia
    exact hq rows _ H2 (by kl_some) (by kl_some) (by rw [hl']; exact hrows) x2 hl1 w2
end
/-! ### S0 -/
section
variable {c : Cx} {p : Params} {H : HA} {Q : V → HA → Prop} {X : Addr → HA → Prop}
theorem sp_is_true_t (g : Gd c p) (hd : 2 ≤ c.d) {i : Int} (h : i ≠ 0) (hq : Q (.bool true) H) : CallW c (.glob 114) [.int i] H Q X :=
  sp_is_true g hd (by rw [beq_eq_false_iff_ne.mpr h]; exact hq)
theorem sp_is_true_f (g : Gd c p) (hd : 2 ≤ c.d) {i : Int} (h : i = 0) (hq : Q (.bool false) H) : CallW c (.glob 114) [.int i] H Q X :=
  sp_is_true g hd (by rw [beq_iff_eq.mpr h]; exact hq)
end
local macro_rules | `(tactic| nest_fact) => `(tactic| first | ((with_reducible refine' sp_is_true_t ‹_› ?_ ?_ ?_); (· kl_some); (· assumption)) | ((with_reducible refine' sp_is_true_f ‹_› ?_ ?_ ?_); (· kl_some); (· assumption)))
/-! ### S1 -/
section
theorem set_app0 {H t : HA} {a b : Ob} : (H ++ a :: t).set H.length b = H ++ b :: t := by
  rw [List.set_append_right _ _ (Nat.le_refl _), Nat.sub_self]; rfl
theorem get_app0 {H t : HA} {a : Ob} : (H ++ a :: t)[H.length]? = some a := by
  rw [List.getElem?_append_right (Nat.le_refl _), Nat.sub_self]; rfl
theorem get_appN {H t : HA} {k : Nat} : (H ++ t)[H.length + k]? = t[k]? := by
  rw [List.getElem?_append_right (Nat.le_add_right _ _), Nat.add_sub_cancel_left]
theorem set_appN {H t : HA} {k : Nat} {b : Ob} : (H ++ t).set (H.length + k) b = H ++ t.set k b := by
  rw [List.set_append_right _ _ (Nat.le_add_right _ _), Nat.add_sub_cancel_left]
local macro_rules | `(tactic| kst_mem) => `(tactic| with_reducible exact get_app0)
section
variable {c : Cx} {p : Params} {H : HA} {Q : V → HA → Prop} {X : Addr → HA → Prop}
theorem sp_RowCode (g : Gd c p) (hd : 2 ≤ c.d) {o s : V} (hq : Q (.ref H.length) (H ++ [.inst 343 [(("orders" : Str), o), (("starts" : Str), s)]])) : CallW c (.glob 343) [o, s] H Q X := by
  refine cls_call (m_RowCode g) (i_RowCode g) (t_RowCode g) (by kl_some) ?_
  refine fn_go g.next f_RowCode_init rfl (by show 1 ≤ c.d - 1; lia) fun c' g' hv hd' => ?_
  conv => arg 3; whnf
  repeat tlg_ne
  refine ⟨rfl, ?_⟩
  rw [set_lst, set_lst]
  exact hq
noncomputable abbrev flatF (r q d a l f : V) : List (Str × V) := [(("rows" : Str), r), (("places" : Str), q), (("data" : Str), d), (("pairs" : Str), a), (("loops" : Str), l), (("fns" : Str), f)]
theorem sp_Flat (g : Gd c p) (hd : 2 ≤ c.d) (hq : Q (.ref H.length) (H ++ [.inst 439 (flatF (.ref (H.length + 1)) (.ref (H.length + 2)) (.ref (H.length + 3)) (.ref (H.length + 4)) (.ref (H.length + 5)) (.ref (H.length + 6))), .list [], .dictI [], .list [], .dictI [], .dictI [], .dictI []])) : CallW c (.glob 439) [] H Q X := by
  refine cls_call (m_Flat g) (i_Flat g) (t_Flat g) (by kl_some) ?_
  refine fn_go g.next f_Flat_init rfl (by show 1 ≤ c.d - 1; lia) fun c' g' hv hd' => ?_
  conv => arg 3; whnf
  repeat tlg_ne
  refine ev_dict0 (.dictI []) (.inl rfl) ?_
  simp only [List.append_assoc, List.cons_append, List.nil_append, set_app0, List.length_append, List.length_cons, List.length_nil]
  repeat tlg_ne
  simp only [List.append_assoc, List.cons_append, List.nil_append, set_app0, List.length_append, List.length_cons, List.length_nil]
  repeat tlg_ne
  refine ev_dict0 (.dictI []) (.inl rfl) ?_
  simp only [List.append_assoc, List.cons_append, List.nil_append, set_app0, List.length_append, List.length_cons, List.length_nil]
  repeat tlg_ne
  refine ev_dict0 (.dictI []) (.inl rfl) ?_
  simp only [List.append_assoc, List.cons_append, List.nil_append, set_app0, List.length_append, List.length_cons, List.length_nil]
  repeat tlg_ne
  refine ev_dict0 (.dictI []) (.inl rfl) ?_
  simp only [List.append_assoc, List.cons_append, List.nil_append, set_app0, List.length_append, List.length_cons, List.length_nil]
  repeat tlg_ne
  refine ⟨rfl, ?_⟩
  simp only [set_app0]
  exact hq
end
end
local macro_rules | `(tactic| nest_fact) => `(tactic| ((with_reducible refine' sp_RowCode ‹_› ?_ ?_); (· kl_some)))
local macro_rules | `(tactic| nest_fact) => `(tactic| ((with_reducible refine' sp_Flat ‹_› ?_ ?_); (· kl_some)))
/-! ### S2 -/
section
variable {c : Cx} {p : Params} {H : HA} {Q : V → HA → Prop} {X : Addr → HA → Prop}
noncomputable abbrev hooksF (v b d a : V) : List (Str × V) := [(("values" : Str), v), (("bits" : Str), b), (("digits" : Str), d), (("asked" : Str), a)]
theorem sp_PlainHooks (g : Gd c p) (hd : 2 ≤ c.d) {v b d : V} (hq : Q (.ref H.length) (H ++ [.inst 544 (hooksF v b d (.ref (H.length + 1))), .list []])) : CallW c (.glob 544) [v, b, d] H Q X := by
  refine cls_call (m_PlainHooks g) (i_PlainHooks g) (t_PlainHooks g) (by kl_some) ?_
  refine fn_go g.next f_PlainHooks_init rfl (by show 1 ≤ c.d - 1; lia) fun c' g' hv hd' => ?_
  conv => arg 3; whnf
  repeat tlg_ne
  refine ⟨rfl, ?_⟩
  simp only [List.append_assoc, List.cons_append, List.nil_append, set_app0, set_lst, List.length_append, List.length_cons, List.length_nil, List.length_set]
  exact hq
noncomputable abbrev waysF (b s q d l : V) : List (Str × V) := [(("begin" : Str), b), (("store" : Str), s), (("put" : Str), q), (("do" : Str), d), (("led" : Str), l)]
theorem sp_RowWays (g : Gd c p) (hd : 2 ≤ c.d) {b s q d l : V} (hq : Q (.ref H.length) (H ++ [.inst 565 (waysF b s q d l)])) : CallW c (.glob 565) [b, s, q, d, l] H Q X := by
  refine cls_call (m_RowWays g) (i_RowWays g) (t_RowWays g) (by kl_some) ?_
  refine fn_go g.next f_RowWays_init rfl (by show 1 ≤ c.d - 1; lia) fun c' g' hv hd' => ?_
  conv => arg 3; whnf
  repeat tlg_ne
  refine ⟨rfl, ?_⟩
  simp only [set_lst]
  exact hq
noncomputable abbrev runF (cd v b d h w p r : V) : List (Str × V) := [(("code" : Str), cd), (("values" : Str), v), (("bits" : Str), b), (("digits" : Str), d), (("hooks" : Str), h), (("ways" : Str), w), (("pile" : Str), p), (("row" : Str), r)]
theorem sp_RowRun (g : Gd c p) (hd : 2 ≤ c.d) {cd v b d h w : V} (hq : Q (.ref H.length) (H ++ [.inst 621 (runF cd v b d h w (.ref (H.length + 1)) (.int 0)), .list []])) : CallW c (.glob 621) [cd, v, b, d, h, w] H Q X := by
  refine cls_call (m_RowRun g) (i_RowRun g) (t_RowRun g) (by kl_some) ?_
  refine fn_go g.next f_RowRun_init rfl (by show 1 ≤ c.d - 1; lia) fun c' g' hv hd' => ?_
  conv => arg 3; whnf
  repeat tlg_ne
  refine ⟨rfl, ?_⟩
  simp only [List.append_assoc, List.cons_append, List.nil_append, set_app0, set_lst, List.length_append, List.length_cons, List.length_nil, List.length_set]
  exact hq
noncomputable abbrev tName : V := .tup [.str ("name" : Str), .str ("A" : Str)]
noncomputable abbrev tWhole (k : Int) : V := .tup [.str ("whole" : Str), .int k]
noncomputable abbrev tTwo (o : Str) (k : Int) : V := .tup [.str ("two" : Str), .str o, tName, tWhole k]
theorem sp_expr_two (g : Gd c p) (hd : 4 ≤ c.d) (hn : c.hv = none) {o : Str} {k : Int} (hi : -1000 ≤ k) (hi' : k ≤ 1000) (hq : ∀ f H', Ext [] H H' → H.length ≤ f → H'[f]? = some (.list [vOd .var, vOd (.push k), .tup [.str ("TWO" : Str), .str o]]) → Q (.ref f) H') :
    CallW c (.glob 361) [tTwo o k, .int 16, .int 9] H Q X := by
  refine (fn_go g f_expression_orders rfl (by kl_some) fun c' g' hv hd' => ?_).call
  rw [hn] at hv
  conv => arg 3; whnf
  repeat tlg_ne
  simp only [List.append_assoc, List.cons_append, List.nil_append, List.length_append, List.length_cons, List.length_nil, Nat.zero_add]
  obtain ⟨I, hI⟩ : ∃ I : Nat → LM → HA → Prop, ∀ n m' H', I n m' H' ↔ (m'.lookup ("bits" : Str) = some (.int 16) ∧ m'.lookup ("digits" : Str) = some (.int 9) ∧ m'.lookup ("found" : Str) = some (.ref H.length) ∧ m'.lookup ("waiting" : Str) = some (.ref (H.length + 1)) ∧ Ext [] H H' ∧
    ∃ F W, H'[H.length]? = some (.list F) ∧ H'[H.length + 1]? = some (.list W) ∧
      ((n = 3 ∧ W = [tTwo o k] ∧ F = []) ∨ (n = 2 ∧ W = [tName, tWhole k] ∧ F = [.tup [.str ("TWO" : Str), .str o]]) ∨ (n = 1 ∧ W = [tName] ∧ F = [.tup [.str ("TWO" : Str), .str o], vOd (.push k)]) ∨
        (n = 0 ∧ W = [] ∧ F = [.tup [.str ("TWO" : Str), .str o], vOd (.push k), vOd .var]))) := ⟨_, fun _ _ _ => Iff.rfl⟩
  have hE : ∀ n m' H', I n m' H' → ∀ C : Prop, (m'.lookup ("bits" : Str) = some (.int 16) → m'.lookup ("digits" : Str) = some (.int 9) → m'.lookup ("found" : Str) = some (.ref H.length) → m'.lookup ("waiting" : Str) = some (.ref (H.length + 1)) → Ext [] H H' → ∀ F W, H'[H.length]? = some (.list F) → H'[H.length + 1]? = some (.list W) → (((n = 3 ∧ W = [tTwo o k] ∧ F = []) ∨ (n = 2 ∧ W = [tName, tWhole k] ∧ F = [.tup [.str ("TWO" : Str), .str o]]) ∨ (n = 1 ∧ W = [tName] ∧ F = [.tup [.str ("TWO" : Str), .str o], vOd (.push k)]) ∨ (n = 0 ∧ W = [] ∧ F = [.tup [.str ("TWO" : Str), .str o], vOd (.push k), vOd .var]))) → C) → C := fun _ _ _ h C z => by obtain ⟨v1, v2, v3, v4, v5, F, W, v6, v7, v8⟩ := (hI _ _ _).1 h; exact z v1 v2 v3 v4 v5 F W v6 v7 v8
  refine xs_while I 3 rfl ?_ ?_
  · exact (hI _ _ _).2 ⟨by lcg_off, by lcg_off, by lcg_off, by lcg_off, Ext.refl.app, [], [tTwo o k], get_app0, get_appN, .inl ⟨rfl, rfl, rfl⟩⟩
  · intro n m' H' h00
    refine hE _ _ _ h00 _ fun l1 l2 l3 l4 x1 F W hF hW hc => ?_
    rcases hc with ⟨rfl, rfl, rfl⟩ | ⟨rfl, rfl, rfl⟩ | ⟨rfl, rfl, rfl⟩ | ⟨rfl, rfl, rfl⟩
    all_goals repeat tlg_ne
    · exact ⟨2, by lia, (hI _ _ _).2 ⟨by lcg_off, by lcg_off, by lcg_off, by lcg_off, by top_reprB, _, _, by top_raise0, by top_raise0, .inr (.inl ⟨rfl, rfl, rfl⟩)⟩⟩
    · exact ⟨1, by lia, (hI _ _ _).2 ⟨by lcg_off, by lcg_off, by lcg_off, by lcg_off, by top_reprB, _, _, by top_raise0, by top_raise0, .inr (.inr (.inl ⟨rfl, rfl, rfl⟩))⟩⟩
    · exact ⟨0, by lia, (hI _ _ _).2 ⟨by lcg_off, by lcg_off, by lcg_off, by lcg_off, by top_reprB, _, _, by top_raise0, by top_raise0, .inr (.inr (.inr ⟨rfl, rfl, rfl⟩))⟩⟩
    · exact hq _ _ (by top_reprB) (Nat.le_refl _) (hs_here hF)
theorem sp_expr_whole (g : Gd c p) (hd : 4 ≤ c.d) (hn : c.hv = none) {k : Int} (hi : -1000 ≤ k) (hi' : k ≤ 1000) (hq : ∀ f H', Ext [] H H' → H.length ≤ f → H'[f]? = some (.list [vOd (.push k)]) → Q (.ref f) H') :
    CallW c (.glob 361) [tWhole k, .int 16, .int 9] H Q X := by
  refine (fn_go g f_expression_orders rfl (by kl_some) fun c' g' hv hd' => ?_).call
  rw [hn] at hv
  conv => arg 3; whnf
  repeat tlg_ne
  simp only [List.append_assoc, List.cons_append, List.nil_append, List.length_append, List.length_cons, List.length_nil, Nat.zero_add]
  obtain ⟨I, hI⟩ : ∃ I : Nat → LM → HA → Prop, ∀ n m' H', I n m' H' ↔ (m'.lookup ("bits" : Str) = some (.int 16) ∧ m'.lookup ("digits" : Str) = some (.int 9) ∧ m'.lookup ("found" : Str) = some (.ref H.length) ∧ m'.lookup ("waiting" : Str) = some (.ref (H.length + 1)) ∧ Ext [] H H' ∧
    ∃ F W, H'[H.length]? = some (.list F) ∧ H'[H.length + 1]? = some (.list W) ∧
      ((n = 1 ∧ W = [tWhole k] ∧ F = []) ∨ (n = 0 ∧ W = [] ∧ F = [vOd (.push k)]))) := ⟨_, fun _ _ _ => Iff.rfl⟩
  have hE : ∀ n m' H', I n m' H' → ∀ C : Prop, (m'.lookup ("bits" : Str) = some (.int 16) → m'.lookup ("digits" : Str) = some (.int 9) → m'.lookup ("found" : Str) = some (.ref H.length) → m'.lookup ("waiting" : Str) = some (.ref (H.length + 1)) → Ext [] H H' → ∀ F W, H'[H.length]? = some (.list F) → H'[H.length + 1]? = some (.list W) → (((n = 1 ∧ W = [tWhole k] ∧ F = []) ∨ (n = 0 ∧ W = [] ∧ F = [vOd (.push k)]))) → C) → C := fun _ _ _ h C z => by obtain ⟨v1, v2, v3, v4, v5, F, W, v6, v7, v8⟩ := (hI _ _ _).1 h; exact z v1 v2 v3 v4 v5 F W v6 v7 v8
  refine xs_while I 1 rfl ?_ ?_
  · exact (hI _ _ _).2 ⟨by lcg_off, by lcg_off, by lcg_off, by lcg_off, Ext.refl.app, [], [tWhole k], get_app0, get_appN, .inl ⟨rfl, rfl, rfl⟩⟩
  · intro n m' H' h00
    refine hE _ _ _ h00 _ fun l1 l2 l3 l4 x1 F W hF hW hc => ?_
    rcases hc with ⟨rfl, rfl, rfl⟩ | ⟨rfl, rfl, rfl⟩
    all_goals repeat tlg_ne
    · exact ⟨0, by lia, (hI _ _ _).2 ⟨by lcg_off, by lcg_off, by lcg_off, by lcg_off, by top_reprB, _, _, by top_raise0, by top_raise0, .inr ⟨rfl, rfl, rfl⟩⟩⟩
    · exact hq _ _ (by top_reprB) (Nat.le_refl _) (hs_here hF)
end
local macro_rules | `(tactic| nest_fact) => `(tactic| ((with_reducible refine' sp_PlainHooks ‹_› ?_ ?_); (· kl_some)))
local macro_rules | `(tactic| nest_fact) => `(tactic| ((with_reducible refine' sp_RowWays ‹_› ?_ ?_); (· kl_some)))
local macro_rules | `(tactic| nest_fact) => `(tactic| ((with_reducible refine' sp_RowRun ‹_› ?_ ?_); (· kl_some)))
/-! ### S3 -/
/-! the compiler's work in plain Lean -/
noncomputable def flV (rows : List Rw) : List V := rows.mapIdx fun i r => .tup [.int (10 + (i : Int)), vRow r]
noncomputable def plV (n : Nat) : List (Int × V) := (List.range n).map fun i : Nat => (10 + (i : Int), V.int (i : Int))
theorem flV_get {rows : List Rw} {i : Nat} {r : Rw} (h : rows[i]? = some r) : (flV rows)[i]? = some (.tup [.int (10 + (i : Int)), vRow r]) := by
  unfold flV; rw [List.getElem?_mapIdx, h]; rfl
theorem plV_get : ∀ {n g : Nat}, g < n → dget (plV n) (10 + (g : Int)) = some (.int (g : Int)) := by
  intro n g h
  unfold dget plV
  rw [List.find?_map]
  have e : List.find? ((fun kv : Int × V => decide (kv.1 = 10 + (g : Int))) ∘ fun i : Nat => (10 + (i : Int), V.int (i : Int))) (List.range n) = some g := by
    rw [List.find?_eq_some_iff_getElem]
    refine ⟨by simp, g, by simpa using h, by simp, fun j hj => ?_⟩
    simp; lia
  rw [e]; rfl
noncomputable def blk : Rw → Nat → List Od
  | .let_ b k, i => [.row i, .var, .push k, .add, .store b]
  | .less k g, i => [.row i, .var, .push (4 * (k : Int)), .lt, .tst g]
  | .known k g, i => [.row i, .push k, .tst g]
  | .jump g, _ => [.go g]
  | .goto g, i => [.row i, .go g]
  | .rem, i => [.row i]
noncomputable def cor : Nat → List Rw → List Od
  | _, [] => []
  | i, r :: rs => blk r i ++ cor (i + 1) rs
noncomputable def cst : Nat → Nat → List Rw → List Nat
  | _, _, [] => []
  | i, q, r :: rs => q :: cst (i + 1) (q + (blk r i).length) rs
noncomputable def ledO (st : List Nat) : Od → Od
  | .go t => .go (st.getD t 0)
  | .tst t => .tst (st.getD t 0)
  | o => o
theorem blk_len (r : Rw) (i : Nat) : (blk r i).length ≤ 5 := by cases r <;> simp [blk]
theorem cor_cat : ∀ {i : Nat} {xs : List Rw} {r : Rw}, cor i (xs ++ [r]) = cor i xs ++ blk r (i + xs.length)
  | i, [], r => by simp [cor]
  | i, x :: xs, r => by
    rw [List.cons_append, cor, cor, cor_cat, List.append_assoc, List.length_cons]
    congr 3; lia
theorem cst_cat : ∀ {i q : Nat} {xs : List Rw} {r : Rw}, cst i q (xs ++ [r]) = cst i q xs ++ [q + (cor i xs).length]
  | i, q, [], r => by simp [cor, cst]
  | i, q, x :: xs, r => by
    rw [List.cons_append, cst, cst, cst_cat, cor, List.length_append, List.cons_append]
    congr 3; lia
theorem cor_len : ∀ {i : Nat} {xs : List Rw}, (cor i xs).length ≤ 5 * xs.length
  | i, [] => by simp [cor]
  | i, x :: xs => by
    have := blk_len x i
    have := @cor_len (i + 1) xs
    rw [cor, List.length_append, List.length_cons]; lia
theorem cst_len : ∀ {i q : Nat} {xs : List Rw}, (cst i q xs).length = xs.length
  | i, q, [] => rfl
  | i, q, x :: xs => by rw [cst, List.length_cons, cst_len, List.length_cons]
section
variable {c : Cx} {p : Params} {H : HA} {Q : V → HA → Prop} {X : Addr → HA → Prop}
theorem sp_target (g : Gd c p) (hd : 5 ≤ c.d) (hn : c.hv = none) {b : Bool} {k : Nat} (hi : k ≤ 2) (hq : ∀ f H', Ext [] H H' → H.length ≤ f → H'[f]? = some (.list [vOd .var, vOd (.push k), vOd .add, vOd (.store b)]) → Q (.ref f) H') :
    CallW c (.glob 368) [.tup [.str ("name" : Str), vNm b], tTwo ("+" : Str) k, .int 16, .int 9] H Q X := by
  refine (fn_go g f_target_orders rfl (by kl_some) fun c' g' hv hd' => ?_).call
  rw [hn] at hv
  conv => arg 3; whnf
  repeat tlg_ne
  refine sp_expr_two g' (by kl_some) hv (by kl_some) (by kl_some) fun f H1 x1 l1 y1 => ?_
  repeat tlg_ne
  exact hq _ _ (by top_reprB) (by have := x1.1; rw [List.length_append]; lia) hs_last
theorem sp_row_orders (g : Gd c p) (hd : 6 ≤ c.d) (hn : c.hv = none) {n rs q : Nat} {d a l fn : V} {rows : List Rw} {i : Nat} {r : Rw} (h1 : H[n]? = some (.inst 439 (flatF (.ref rs) (.ref q) d a l fn))) (h2 : H[rs]? = some (.list (flV rows))) (h3 : H[q]? = some (.dictI (plV rows.length)))
    (hr : rows[i]? = some r) (hk : r.Ok (rows.length - 1)) (hz : rows.length ≤ 8) (hq : ∀ f H', Ext [] H H' → H.length ≤ f → H'[f]? = some (.list ((blk r i).map vOd)) → Q (.ref f) H') :
    CallW c (.glob 375) [.ref n, .int i, .int 16, .int 9] H Q X := by
  refine (fn_go g f_row_orders rfl (by kl_some) fun c' g' hv hd' => ?_).call
  rw [hn] at hv
  conv => arg 3; whnf
  have hil : i < rows.length := (List.getElem?_eq_some_iff.mp hr).1
  have hfl : (flV rows)[((i : Int)).toNat]? = some (.tup [.int (10 + (i : Int)), vRow r]) := flV_get hr
  cases r
  all_goals simp only [vRow, wRow, aRow] at hfl
  all_goals repeat tlg_ne
  · rename_i b k
    have hk' : k ≤ 2 := hk
    refine sp_target g' (by kl_some) hv hk' fun f H1 x1 l1 y1 => ?_
    have w1 := x1.get (by simp) hs_last
    repeat tlg_ne
    exact hq _ _ ((Ext.refl.app.trans x1).app) (by have := x1.1; rw [List.length_append] at this; lia) hs_last
  · rename_i k gl
    have hk' : k ≤ 2 := hk.1
    refine sp_expr_two g' (by kl_some) hv (by kl_some) (by kl_some) fun f H1 x1 l1 y1 => ?_
    have w1 := x1.get (by simp) hs_last
    repeat tlg_ne
    exact hq _ _ ((Ext.refl.app.trans x1).app.app.app) (by have := x1.1; simp only [List.length_append] at this ⊢; lia) hs_last
  · rename_i k gl
    have hk' : k ≤ 2 := hk.1
    refine sp_expr_whole g' (by kl_some) hv (by kl_some) (by kl_some) fun f H1 x1 l1 y1 => ?_
    have w1 := x1.get (by simp) hs_last
    repeat tlg_ne
    exact hq _ _ ((Ext.refl.app.trans x1).app.app.app) (by have := x1.1; simp only [List.length_append] at this ⊢; lia) hs_last
  · rename_i gl; exact hq _ _ Ext.refl.app (Nat.le_refl _) hs_last
  · rename_i gl
    have hk' : gl ≤ rows.length - 1 := hk
    have hpl := plV_get (n := rows.length) (g := gl) (by kl_some)
    repeat tlg_ne
    exact hq _ _ Ext.refl.app (Nat.le_refl _) hs_last
  · exact hq _ _ Ext.refl.app (Nat.le_refl _) hs_last
theorem sp_led_to (g : Gd c p) (hd : 1 ≤ c.d) (hn : c.hv = none) {n s : Nat} {os : List Od} {st : List Nat} {e : V} (h1 : H[n]? = some (.list (os.map vOd))) (h2 : H[s]? = some (.list (natV st))) (hst : st.length ≤ 100) (hz : os.length ≤ 1000)
    (hk : ∀ t, Od.go t ∈ os ∨ Od.tst t ∈ os → t < st.length) (hq : ∀ f H', Ext [] H H' → H.length ≤ f → H'[f]? = some (.list ((os.map (ledO st)).map vOd)) → Q (.ref f) H') :
    CallW c (.glob 382) [.ref n, .ref s, e] H Q X := by
  refine (fn_go g f_led_to rfl (by kl_some) fun c' g' hv hd' => ?_).call
  rw [hn] at hv
  conv => arg 3; whnf
  repeat tlg_ne
  obtain ⟨I, hI⟩ : ∃ I : Nat → LM → HA → Prop, ∀ i m' H', I i m' H' ↔ (m'.lookup ("starts" : Str) = some (.ref s) ∧ m'.lookup ("found" : Str) = some (.ref H.length) ∧ Ext [] H H' ∧ H'[H.length]? = some (.list (((os.take i).map (ledO st)).map vOd))) := ⟨_, fun _ _ _ => Iff.rfl⟩
  have hE : ∀ i m' H', I i m' H' → ∀ C : Prop, (m'.lookup ("starts" : Str) = some (.ref s) → m'.lookup ("found" : Str) = some (.ref H.length) → Ext [] H H' → H'[H.length]? = some (.list (((os.take i).map (ledO st)).map vOd)) → C) → C := fun _ _ _ h C z => by obtain ⟨v1, v2, v3, v4⟩ := (hI _ _ _).1 h; exact z v1 v2 v3 v4
  refine xs_for_list (n := n) (xs := os.map vOd) I hv (.name _ _) ?_ (fun i m' H' h => ((hI _ _ _).1 h).2.2.1.get (by simp) h1) ?_ ?_
  · repeat tlg_ne
    exact ⟨rfl, (hI _ _ _).2 ⟨by lcg_off, by lcg_off, Ext.refl.app, hs_last⟩⟩
  · intro i x m' H' hx h00
    refine hE _ _ _ h00 _ fun l1 l2 x1 y1 => ?_
    rw [List.getElem?_map] at hx
    obtain ⟨o, ho, rfl⟩ := Option.map_eq_some_iff.mp hx
    have hlt := (List.getElem?_eq_some_iff.mp ho).1
    have hmem := List.mem_of_getElem? ho
    have hs := x1.get (by simp) h2
    have htk : os.take (i + 1) = os.take i ++ [o] := by rw [List.take_add_one, ho]; rfl
    have hlen : (os.take i).length ≤ 1000 := by rw [List.length_take]; lia
    rcases od_cases o with ⟨t, rfl⟩ | ⟨t, rfl⟩ | ⟨e1, e2, e3, e4⟩
    · have e1 := @go_GO t
      have ht := hk t (.inl hmem)
      have hg := natV_get ht
      repeat tlg_ne
      exact (hI _ _ _).2 ⟨by lcg_off, by lcg_off, by top_reprB, by rw [htk, List.map_append, List.map_append]; exact hs_here y1⟩
    · have e1 := @tst_GO t
      have e2 := @tst_FALSE t
      have ht := hk t (.inr hmem)
      have hg := natV_get ht
      repeat tlg_ne
      exact (hI _ _ _).2 ⟨by lcg_off, by lcg_off, by top_reprB, by rw [htk, List.map_append, List.map_append]; exact hs_here y1⟩
    · have e5 : ledO st o = o := by cases o <;> first | rfl | exact absurd rfl (e3 _) | exact absurd rfl (e4 _)
      repeat tlg_ne
      exact (hI _ _ _).2 ⟨by lcg_off, by lcg_off, by top_reprB, by rw [htk, List.map_append, List.map_append]; simp only [List.map_cons, List.map_nil, e5]; exact hs_here y1⟩
  · intro m' H' h00
    refine hE _ _ _ h00 _ fun l1 l2 x1 y1 => ?_
    repeat tlg_ne
    exact hq _ _ x1 (Nat.le_refl _) (by rw [List.length_map, List.take_length] at y1; exact y1)
theorem blk_goal {r : Rw} {i n t : Nat} (h : r.Ok n) (ht : Od.go t ∈ blk r i ∨ Od.tst t ∈ blk r i) : t ≤ n := by
  cases r <;> simp only [blk, List.mem_cons, List.not_mem_nil, or_false, reduceCtorEq, false_or, Od.go.injEq, Od.tst.injEq, Rw.Ok] at ht h <;> first | exact ht.elim | (subst ht; first | exact h.2 | exact h)
theorem cor_goal {n t : Nat} : ∀ {i : Nat} {rows : List Rw}, (∀ r ∈ rows, r.Ok n) → (Od.go t ∈ cor i rows ∨ Od.tst t ∈ cor i rows) → t ≤ n
  | i, [], h, ht => by simp [cor] at ht
  | i, r :: rs, h, ht => by
    rw [cor, List.mem_append, List.mem_append] at ht
    rcases ht with (ht | ht) | (ht | ht)
    · exact blk_goal (h r (.head _)) (.inl ht)
    · exact cor_goal (fun q hq => h q (.tail _ hq)) (.inl ht)
    · exact blk_goal (h r (.head _)) (.inr ht)
    · exact cor_goal (fun q hq => h q (.tail _ hq)) (.inr ht)
noncomputable abbrev codeF (o s : V) : List (Str × V) := [(("orders" : Str), o), (("starts" : Str), s)]
noncomputable def compO (rows : List Rw) : List Od := (cor 0 rows).map (ledO (cst 0 0 rows)) ++ [.fin]
theorem sp_compile (g : Gd c p) (hd : 7 ≤ c.d) (hn : c.hv = none) {n rs q : Nat} {d a l fn : V} {rows : List Rw} (h1 : H[n]? = some (.inst 439 (flatF (.ref rs) (.ref q) d a l fn))) (h2 : H[rs]? = some (.list (flV rows))) (h3 : H[q]? = some (.dictI (plV rows.length)))
    (hk : ∀ r ∈ rows, r.Ok (rows.length - 1)) (hz : rows.length ≤ 8) (hz1 : 1 ≤ rows.length) (hq : ∀ f o s H', Ext [] H H' → H.length ≤ f → H'[f]? = some (.inst 343 (codeF (.ref o) (.ref s))) → H'[o]? = some (.list ((compO rows).map vOd)) → H'[s]? = some (.list (natV (cst 0 0 rows))) → Q (.ref f) H') :
    CallW c (.glob 389) [.ref n, .int 16, .int 9] H Q X := by
  refine (fn_go g f_compile_rows rfl (by kl_some) fun c' g' hv hd' => ?_).call
  rw [hn] at hv
  conv => arg 3; whnf
  repeat tlg_ne
  simp only [List.append_assoc, List.cons_append, List.nil_append, List.length_append, List.length_cons, List.length_nil, Nat.zero_add]
  obtain ⟨I, hI⟩ : ∃ I : Nat → LM → HA → Prop, ∀ i m' H', I i m' H' ↔ (m'.lookup ("flat" : Str) = some (.ref n) ∧ m'.lookup ("bits" : Str) = some (.int 16) ∧ m'.lookup ("digits" : Str) = some (.int 9) ∧ m'.lookup ("orders" : Str) = some (.ref H.length) ∧ m'.lookup ("starts" : Str) = some (.ref (H.length + 1)) ∧ Ext [] H H' ∧
    H'[H.length]? = some (.list ((cor 0 (rows.take i)).map vOd)) ∧ H'[H.length + 1]? = some (.list (natV (cst 0 0 (rows.take i))))) := ⟨_, fun _ _ _ => Iff.rfl⟩
  have hE : ∀ i m' H', I i m' H' → ∀ C : Prop, (m'.lookup ("flat" : Str) = some (.ref n) → m'.lookup ("bits" : Str) = some (.int 16) → m'.lookup ("digits" : Str) = some (.int 9) → m'.lookup ("orders" : Str) = some (.ref H.length) → m'.lookup ("starts" : Str) = some (.ref (H.length + 1)) → Ext [] H H' → H'[H.length]? = some (.list ((cor 0 (rows.take i)).map vOd)) → H'[H.length + 1]? = some (.list (natV (cst 0 0 (rows.take i)))) → C) → C := fun _ _ _ h C z => by obtain ⟨v1, v2, v3, v4, v5, v6, v7, v8⟩ := (hI _ _ _).1 h; exact z v1 v2 v3 v4 v5 v6 v7 v8
  refine xs_for_range (N := (rows.length : Int)) I hv ⟨n_range g', b_range, by kernel_rfl, by decide +kernel, by decide +kernel⟩ ?hit (by kl_some) (by kl_some) ?turn ?done
  case hit =>
    have hfl : (flV rows).length = rows.length := by unfold flV; simp
    repeat tlg_ne
    exact ⟨by rw [hfl], (hI _ _ _).2 ⟨by lcg_off, by lcg_off, by lcg_off, by lcg_off, by lcg_off, Ext.refl.app, get_app0, get_appN⟩⟩
  case turn =>
    intro i m' H' hi h00
    refine hE _ _ _ h00 _ fun l1 l2 l3 l4 l5 x1 y1 y2 => ?_
    have hi' : i < rows.length := by lia
    have hr := List.getElem?_eq_getElem hi'
    generalize rows[i] = r at hr
    have hc1 := @cor_len 0 (rows.take i)
    have hc2 := @cst_len 0 0 (rows.take i)
    have hlt : (rows.take i).length = i := by rw [List.length_take]; lia
    have htk : rows.take (i + 1) = rows.take i ++ [r] := by rw [List.take_add_one, hr]; rfl
    have hb := blk_len r i
    repeat tlg_ne
    refine sp_row_orders g' (by kl_some) hv (Ext.get (Ext.setN x1 (by kl_some)) (by simp) h1) (Ext.get (Ext.setN x1 (by kl_some)) (by simp) h2) (Ext.get (Ext.setN x1 (by kl_some)) (by simp) h3) hr ?_ hz fun f H1 x2 l6 y3 => ?_
    · exact hk r (List.mem_of_getElem? hr)
    have w1 := x2.get (by simp) (hs_skip (by kl_some) y1)
    have w2 := x2.get (by simp) (hs_here y2)
    have x3 := (x1.setN (by kl_some)).trans x2
    clear x1 x2 y1 y2
    repeat tlg_ne
    exact (hI _ _ _).2 ⟨by lcg_off, by lcg_off, by lcg_off, by lcg_off, by lcg_off, by top_reprB, by rw [htk, cor_cat]; simp only [Nat.zero_add, hlt]; rw [List.map_append]; exact hs_here w1, by rw [htk, cst_cat]; simp only [Nat.zero_add, hlt]; exact hs_skip (by kl_some) (by rw [List.length_map] at w2; simpa [natV] using w2)⟩
  case done =>
    intro m' H' h00
    refine hE _ _ _ h00 _ fun l1 l2 l3 l4 l5 x1 y1 y2 => ?_
    have hc1 := @cor_len 0 rows
    have hc2 := @cst_len 0 0 rows
    simp only [Int.toNat_natCast, List.take_length] at y1 y2
    repeat tlg_ne
    refine sp_led_to g' (by kl_some) hv y1 y2 (by kl_some) (by kl_some) (fun t ht => ?_) fun f H1 x2 l6 y3 => ?_
    · have := cor_goal hk ht
      lia
    have w2 := x2.get (by simp) y2
    have hl := x1.1
    have hlen : ((cor 0 rows).map (ledO (cst 0 0 rows))).length ≤ 40 := by rw [List.length_map]; lia
    repeat tlg_ne
    refine hq _ _ _ _ (x1.trans x2).app.app.app ?_ hs_last (hs_app ?_) (hs_app (hs_app (hs_app w2)))
    · have := x2.1; simp only [List.length_append]; lia
    · rw [compO, List.map_append]; exact hs_last
end
/-! ### S4 -/
/-! dicts -/
theorem dget_dset (es : List (Int × V)) (j k : Int) (v : V) : dget (dset es j v) k = if k = j then some v else dget es k := by
  unfold dget dset
  split
  · rename_i h
    rw [List.find?_map]
    have e : ((fun kv : Int × V => decide (kv.1 = k)) ∘ fun kv => if kv.1 = j then (kv.1, v) else kv) = fun kv : Int × V => decide (kv.1 = k) := by
      funext kv; simp only [Function.comp]; split <;> rfl
    rw [e]
    split
    · rename_i hk; subst hk
      cases q : es.find? (fun kv : Int × V => decide (kv.1 = k)) with
      | none =>
        rw [List.find?_eq_none] at q
        rw [List.any_eq_true] at h
        obtain ⟨x, hx, hx'⟩ := h
        exact absurd hx' (q x hx)
      | some kv =>
        have := List.find?_some q
        simp only [decide_eq_true_eq] at this
        simp [this]
    · rename_i hk
      cases q : es.find? (fun kv : Int × V => decide (kv.1 = k)) with
      | none => rfl
      | some kv =>
        have := List.find?_some q
        simp only [decide_eq_true_eq] at this
        have hne : kv.1 ≠ j := by rw [this]; exact hk
        simp [hne]
  · rename_i h
    rw [List.find?_append]
    have h' : ∀ x ∈ es, x.1 ≠ j := fun x hx z => h (List.any_eq_true.mpr ⟨x, hx, by simpa using z⟩)
    split
    · rename_i hk; subst hk
      have q : es.find? (fun kv : Int × V => decide (kv.1 = k)) = none := by
        rw [List.find?_eq_none]; intro x hx; simpa using h' x hx
      rw [q]; simp
    · rename_i hk
      cases q : es.find? (fun kv : Int × V => decide (kv.1 = k)) with
      | none => simp; intro z; exact absurd z.symm hk
      | some kv => rfl
theorem dset_len (es : List (Int × V)) (j : Int) (v : V) : (dset es j v).length ≤ es.length + 1 := by
  unfold dset; split <;> simp
/-- a dict that holds True at the places of P alone -/
noncomputable def DP (es : List (Int × V)) (P : Nat → Prop) : Prop := ∀ k : Nat, (P k → dget es (k : Int) = some (.bool true)) ∧ (¬ P k → dget es (k : Int) = none)
theorem DP.nil : DP [] fun _ => False := fun k => ⟨fun h => h.elim, fun _ => rfl⟩
theorem DP.set {es : List (Int × V)} {P R : Nat → Prop} (d : DP es P) (j : Nat) (h : ∀ k, R k ↔ (P k ∨ k = j)) : DP (dset es (j : Int) (.bool true)) R := fun k => by
  rw [dget_dset]
  by_cases hk : k = j
  · subst hk; rw [if_pos rfl]; exact ⟨fun _ => rfl, fun n => absurd ((h k).mpr (.inr rfl)) n⟩
  · rw [if_neg (by kl_some)]
    exact ⟨fun r => (d k).1 (((h k).mp r).resolve_right hk), fun n => (d k).2 fun z => n ((h k).mpr (.inl z))⟩
theorem DP.congr {es : List (Int × V)} {P R : Nat → Prop} (d : DP es P) (h : ∀ k, R k ↔ P k) : DP es R := fun k => ⟨fun r => (d k).1 ((h k).mp r), fun n => (d k).2 fun z => n ((h k).mpr z)⟩
section
variable {c : Cx} {p : Params} {H : HA} {Q : V → HA → Prop} {X : Addr → HA → Prop}
theorem sp_goals_of (g : Gd c p) (hd : 1 ≤ c.d) (hn : c.hv = none) {n o s : Nat} {os : List Od} {st : List Nat} (h0 : H[n]? = some (.inst 343 (codeF (.ref o) (.ref s)))) (h1 : H[o]? = some (.list (os.map vOd))) (h2 : H[s]? = some (.list (natV st))) (hst : st.length ≤ 100) (hz : os.length ≤ 1000)
    (hq : ∀ f H' es, Ext [] H H' → H.length ≤ f → H'[f]? = some (.dictI es) → DP es (fun k => k ∈ st ∨ Od.go k ∈ os ∨ Od.tst k ∈ os) → Q (.ref f) H') :
    CallW c (.glob 396) [.ref n] H Q X := by
  refine (fn_go g f_goals_of rfl (by kl_some) fun c' g' hv hd' => ?_).call
  rw [hn] at hv
  conv => arg 3; whnf
  repeat tlg_ne
  refine ev_dict0 (.dictI []) (.inl rfl) ?_
  repeat tlg_ne
  obtain ⟨I, hI⟩ : ∃ I : Nat → LM → HA → Prop, ∀ i m' H', I i m' H' ↔ (m'.lookup ("code" : Str) = some (.ref n) ∧ m'.lookup ("found" : Str) = some (.ref H.length) ∧ Ext [] H H' ∧ ∃ es, H'[H.length]? = some (.dictI es) ∧ es.length ≤ i ∧ DP es (fun k => k ∈ st.take i)) := ⟨_, fun _ _ _ => Iff.rfl⟩
  have hE : ∀ i m' H', I i m' H' → ∀ C : Prop, (m'.lookup ("code" : Str) = some (.ref n) → m'.lookup ("found" : Str) = some (.ref H.length) → Ext [] H H' → ∀ es, H'[H.length]? = some (.dictI es) → es.length ≤ i → DP es (fun k => k ∈ st.take i) → C) → C := fun _ _ _ h C z => by obtain ⟨v1, v2, v3, es, v4, v5, v6⟩ := (hI _ _ _).1 h; exact z v1 v2 v3 es v4 v5 v6
  refine xs_for_list (n := s) (xs := natV st) I hv (.name _ _) ?_ (fun i m' H' h => ((hI _ _ _).1 h).2.2.1.get (by simp) h2) ?_ ?_
  · repeat tlg_ne
    exact ⟨rfl, (hI _ _ _).2 ⟨by lcg_off, by lcg_off, Ext.refl.app, [], hs_last, Nat.le_refl _, DP.nil.congr fun k => by simp⟩⟩
  · intro i x m' H' hx h00
    refine hE _ _ _ h00 _ fun l1 l2 x1 es y1 y2 y3 => ?_
    rw [List.getElem?_map] at hx
    obtain ⟨q, hq', rfl⟩ := Option.map_eq_some_iff.mp hx
    have hlt := (List.getElem?_eq_some_iff.mp hq').1
    repeat tlg_ne
    refine set_dictI y1 (by kl_some) ?_
    repeat tlg_ne
    exact (hI _ _ _).2 ⟨by lcg_off, by lcg_off, by top_reprB, _, hs_here y1, by have := dset_len es (q : Int) (.bool true); lia, y3.set q fun k => by rw [List.take_add_one, hq']; simp⟩
  · intro m' H' h00
    refine hE _ _ _ h00 _ fun l1 l2 x1 es y1 y2 y3 => ?_
    rw [List.length_map] at y2 y3
    rw [List.take_length] at y3
    have k0 := x1.get (by simp) h0
    repeat tlg_ne
    obtain ⟨I, hI⟩ : ∃ I : Nat → LM → HA → Prop, ∀ i m' H', I i m' H' ↔ (m'.lookup ("code" : Str) = some (.ref n) ∧ m'.lookup ("found" : Str) = some (.ref H.length) ∧ Ext [] H H' ∧ ∃ es, H'[H.length]? = some (.dictI es) ∧ es.length ≤ 100 + i ∧ DP es (fun k => k ∈ st ∨ Od.go k ∈ os.take i ∨ Od.tst k ∈ os.take i)) := ⟨_, fun _ _ _ => Iff.rfl⟩
    have hE : ∀ i m' H', I i m' H' → ∀ C : Prop, (m'.lookup ("code" : Str) = some (.ref n) → m'.lookup ("found" : Str) = some (.ref H.length) → Ext [] H H' → ∀ es, H'[H.length]? = some (.dictI es) → es.length ≤ 100 + i → (DP es (fun k => k ∈ st ∨ Od.go k ∈ os.take i ∨ Od.tst k ∈ os.take i)) → C) → C := fun _ _ _ h C z => by obtain ⟨v1, v2, v3, es, v4, v5, v6⟩ := (hI _ _ _).1 h; exact z v1 v2 v3 es v4 v5 v6
    refine xs_for_list (n := o) (xs := os.map vOd) I hv (.name _ _) ?_ (fun i m' H' h => ((hI _ _ _).1 h).2.2.1.get (by simp) h1) ?_ ?_
    · repeat tlg_ne
      exact ⟨rfl, (hI _ _ _).2 ⟨by lcg_off, by lcg_off, x1, es, y1, by lia, y3.congr fun k => by simp⟩⟩
    · intro i x m' H' hx h00
      refine hE _ _ _ h00 _ fun l1 l2 x1 es y1 y2 y3 => ?_
      rw [List.getElem?_map] at hx
      obtain ⟨od, ho, rfl⟩ := Option.map_eq_some_iff.mp hx
      have hlt := (List.getElem?_eq_some_iff.mp ho).1
      rcases od_cases od with ⟨t, rfl⟩ | ⟨t, rfl⟩ | ⟨e1, e2, e3, e4⟩
      · have e1 := @go_GO t
        repeat tlg_ne
        refine set_dictI y1 (by kl_some) ?_
        repeat tlg_ne
        exact (hI _ _ _).2 ⟨by lcg_off, by lcg_off, by top_reprB, _, hs_here y1, by have := dset_len es (t : Int) (.bool true); lia, y3.set t fun k => by rw [List.take_add_one, ho]; simp; grind⟩
      · have e1 := @tst_GO t
        have e2 := @tst_FALSE t
        repeat tlg_ne
        refine set_dictI y1 (by kl_some) ?_
        repeat tlg_ne
        exact (hI _ _ _).2 ⟨by lcg_off, by lcg_off, by top_reprB, _, hs_here y1, by have := dset_len es (t : Int) (.bool true); lia, y3.set t fun k => by rw [List.take_add_one, ho]; simp; grind⟩
      · repeat tlg_ne
        exact (hI _ _ _).2 ⟨by lcg_off, by lcg_off, x1, es, y1, by lia, y3.congr fun k => by rw [List.take_add_one, ho]; simp; grind⟩
    · intro m' H' h00
      refine hE _ _ _ h00 _ fun l1 l2 x1 es y1 y2 y3 => ?_
      rw [List.length_map, List.take_length] at y3
      repeat tlg_ne
      exact hq _ _ es x1 (Nat.le_refl _) y1 y3
end
/-! ### S5 -/
/-! chains of jumps -/
inductive Chain (os : List Od) : Nat → Nat → Prop
  | refl {a : Nat} : Chain os a a
  | step {a b d : Nat} : os[a]? = some (.go b) → Chain os b d → Chain os a d
theorem Chain.trans {os : List Od} {a b d : Nat} (x : Chain os a b) (y : Chain os b d) : Chain os a d := by
  induction x with
  | refl => exact y
  | step h _ ih => exact .step h (ih y)
theorem Chain.snoc {os : List Od} {a b d : Nat} (x : Chain os a b) (h : os[b]? = some (.go d)) : Chain os a d := x.trans (.step h .refl)
/-- r is where last_goal ends from t: at no jump, or in a ring -/
noncomputable def Lg (os : List Od) (t r : Nat) : Prop := Chain os t r ∧ r < os.length ∧ ((∃ u, os[r]? = some (.go u)) → ∀ x, Chain os r x → ∃ u, os[x]? = some (.go u))
/-- all goals lie within -/
noncomputable def InR (os : List Od) : Prop := ∀ t, Od.go t ∈ os ∨ Od.tst t ∈ os → t < os.length
theorem nodup_len : ∀ {n : Nat} {l : List Nat}, l.Nodup → (∀ x ∈ l, x < n) → l.length ≤ n := by
  intro n
  induction n with
  | zero =>
    intro l _ h
    cases l with
    | nil => exact Nat.le_refl _
    | cons a l => exact absurd (h a (.head _)) (Nat.not_lt_zero _)
  | succ n ih =>
    intro l nd h
    by_cases hn : n ∈ l
    · have h1 := ih (l := l.erase n) (nd.erase n) (fun x hx => by
        have := (List.Nodup.mem_erase_iff nd).mp hx
        have := h x this.2
        lia)
      rw [List.length_erase_of_mem hn] at h1
      lia
    · have := ih nd (fun x hx => by
        have h1 := h x hx
        have h2 : x ≠ n := fun z => hn (z ▸ hx)
        lia)
      lia
theorem go_of {o : Od} (h : (wOd o == ("GO" : Str)) = true) : ∃ t, o = .go t := by
  rcases od_cases o with h' | ⟨t, rfl⟩ | ⟨h', _⟩
  · exact h'
  · rw [tst_GO] at h; cases h
  · rw [h'] at h; cases h
/-- a ring: what was seen leads back into what was seen -/
theorem ring_of {os : List Od} {S : List Nat} {r : Nat} (h : ∀ s ∈ S, ∃ t, os[s]? = some (.go t) ∧ (t ∈ S ∨ t = r)) (hr : r ∈ S) : ∀ x, Chain os r x → ∃ u, os[x]? = some (.go u) := by
  have key : ∀ a x, Chain os a x → a ∈ S → x ∈ S := by
    intro a x hc
    induction hc with
    | refl => exact id
    | step e _ ih =>
      intro ha
      obtain ⟨t, e', ht⟩ := h _ ha
      rw [e] at e'; cases e'
      exact ih (ht.elim id fun z => z ▸ hr)
  intro x hx
  obtain ⟨t, e, _⟩ := h x (key r x hx hr)
  exact ⟨t, e⟩
section
variable {c : Cx} {p : Params} {H : HA} {Q : V → HA → Prop} {X : Addr → HA → Prop}
theorem sp_last_goal (g : Gd c p) (hd : 1 ≤ c.d) (hn : c.hv = none) {o : Nat} {os : List Od} {t : Nat} (h1 : H[o]? = some (.list (os.map vOd))) (hz : os.length ≤ 1000) (hr : InR os) (ht : t < os.length)
    (hq : ∀ r H', Ext [] H H' → Lg os t r → Q (.int (r : Nat)) H') : CallW c (.glob 415) [.ref o, .int t] H Q X := by
  refine (fn_go g f_last_goal rfl (by kl_some) fun c' g' hv hd' => ?_).call
  rw [hn] at hv
  conv => arg 3; whnf
  repeat tlg_ne
  refine ev_dict0 (.dictI []) (.inl rfl) ?_
  repeat tlg_ne
  obtain ⟨I, hI⟩ : ∃ I : Nat → LM → HA → Prop, ∀ k m' H', I k m' H' ↔ (m'.lookup ("orders" : Str) = some (.ref o) ∧ m'.lookup ("seen" : Str) = some (.ref H.length) ∧ Ext [] H H' ∧ ∃ (es : List (Int × V)) (S : List Nat) (r : Nat), m'.lookup ("place" : Str) = some (.int (r : Nat)) ∧ H'[H.length]? = some (.dictI es) ∧ es.length ≤ S.length ∧ DP es (fun k => k ∈ S) ∧ S.Nodup ∧ k + S.length = os.length ∧
    r < os.length ∧ Chain os t r ∧ ∀ s ∈ S, s < os.length ∧ ∃ t, os[s]? = some (.go t) ∧ (t ∈ S ∨ t = r)) := ⟨_, fun _ _ _ => Iff.rfl⟩
  have hE : ∀ k m' H', I k m' H' → ∀ C : Prop, (m'.lookup ("orders" : Str) = some (.ref o) → m'.lookup ("seen" : Str) = some (.ref H.length) → Ext [] H H' → ∀ (es : List (Int × V)) (S : List Nat) (r : Nat), m'.lookup ("place" : Str) = some (.int (r : Nat)) → H'[H.length]? = some (.dictI es) → es.length ≤ S.length → DP es (fun k => k ∈ S) → S.Nodup → k + S.length = os.length → r < os.length → Chain os t r → (∀ s ∈ S, s < os.length ∧ ∃ t, os[s]? = some (.go t) ∧ (t ∈ S ∨ t = r)) → C) → C := fun _ _ _ h C z => by obtain ⟨v1, v2, v3, es, S, r, v4, v5, v6, v7, v8, v9, v10, v11, v12⟩ := (hI _ _ _).1 h; exact z v1 v2 v3 es S r v4 v5 v6 v7 v8 v9 v10 v11 v12
  refine xs_while I os.length rfl ?_ ?_
  · exact (hI _ _ _).2 ⟨by lcg_off, by lcg_off, Ext.refl.app, [], [], t, by lcg_off, hs_last, Nat.le_refl _, DP.nil.congr fun k => by simp, .nil, rfl, ht, .refl, by simp⟩
  · intro k m' H' h00
    refine hE _ _ _ h00 _ fun l1 l2 x1 es S r l3 y1 y2 y3 nd hk hrl hc hS => ?_
    have hsl := nodup_len nd fun x hx => (hS x hx).1
    have k1 := x1.get (by simp) h1
    obtain ⟨od, ho⟩ : ∃ od, os[r]? = some od := ⟨_, List.getElem?_eq_getElem hrl⟩
    have hx : (os.map vOd)[((r : Nat) : Int).toNat]? = some (vOd od) := by show (os.map vOd)[r]? = _; rw [List.getElem?_map, ho]; rfl
    rcases od_cases od with ⟨u, rfl⟩ | ⟨u, rfl⟩ | ⟨e1, e2, e3, e4⟩
    · have e1 := @go_GO u
      by_cases hm : r ∈ S
      · have d1 := (y3 r).1 hm
        repeat tlg_ne
        exact hq _ _ x1 ⟨hc, hrl, fun _ => ring_of (fun s hs => (hS s hs).2) hm⟩
      · have d1 := (y3 r).2 hm
        repeat tlg_ne
        refine set_dictI y1 (by kl_some) ?_
        repeat tlg_ne
        have hnd : (S ++ [r]).Nodup := by rw [List.nodup_append]; exact ⟨nd, by simp, fun a ha b hb => by rw [List.mem_singleton.mp hb]; exact fun z => hm (z ▸ ha)⟩
        have hle := nodup_len hnd fun x hx => by
          rcases List.mem_append.mp hx with hx | hx
          · exact (hS x hx).1
          · rw [List.mem_singleton.mp hx]; exact hrl
        rw [List.length_append] at hle
        refine ⟨k - 1, by simp at hle; lia, (hI _ _ _).2 ⟨by lcg_off, by lcg_off, by top_reprB, _, S ++ [r], u, by lcg_off, hs_here y1, ?_, y3.set r fun k => by simp, hnd, ?_, hr u (.inl (List.mem_of_getElem? ho)), hc.snoc ho, fun s hs => ?_⟩⟩
        · have := dset_len es (r : Int) (.bool true); simp; lia
        · simp at hle ⊢; lia
        · rcases List.mem_append.mp hs with hs | hs
          · obtain ⟨a1, t', a2, a3⟩ := hS s hs
            refine ⟨a1, t', a2, .inl ?_⟩
            rcases a3 with a3 | a3
            · exact List.mem_append_left _ a3
            · rw [a3]; simp
          · rw [List.mem_singleton.mp hs]; exact ⟨hrl, u, ho, .inr rfl⟩
    · have e1 := @tst_GO u
      repeat tlg_ne
      exact hq _ _ x1 ⟨hc, hrl, fun ⟨u, hu⟩ => by rw [ho] at hu; cases hu⟩
    · repeat tlg_ne
      exact hq _ _ x1 ⟨hc, hrl, fun ⟨u, hu⟩ => by rw [ho] at hu; cases hu; exact absurd rfl (e3 u)⟩
/-- what thread_jumps makes of an order -/
noncomputable def Thr (os : List Od) : Od → Od → Prop
  | .go t, o' => ∃ r, o' = .go r ∧ Lg os t r
  | .tst t, o' => ∃ r, o' = .tst r ∧ Lg os t r
  | o, o' => o' = o
noncomputable def Thrs (os : List Od) (n : Nat) (os' : List Od) : Prop := os'.length = n ∧ ∀ (i : Nat) (o : Od), i < n → os[i]? = some o → ∃ o', os'[i]? = some o' ∧ Thr os o o'
theorem Thrs.snoc {os os' : List Od} {n : Nat} {o o' : Od} (h : Thrs os n os') (ho : os[n]? = some o) (ht : Thr os o o') : Thrs os (n + 1) (os' ++ [o']) := by
  refine ⟨by simp [h.1], fun i q hi hq => ?_⟩
  by_cases hin : i < n
  · obtain ⟨q', e, t⟩ := h.2 i q hin hq
    exact ⟨q', by rw [List.getElem?_append_left (by rw [h.1]; exact hin)]; exact e, t⟩
  · have : i = n := by lia
    subst this
    rw [ho] at hq; cases hq
    exact ⟨o', by rw [← h.1]; simp, ht⟩
theorem sp_thread (g : Gd c p) (hd : 3 ≤ c.d) (hn : c.hv = none) {n o s : Nat} {os : List Od} {v : V} (h0 : H[n]? = some (.inst 343 (codeF (.ref o) (.ref s)))) (h1 : H[o]? = some (.list (os.map vOd))) (hz : os.length ≤ 1000) (hr : InR os)
    (hq : ∀ f o' os' H', Ext [] H H' → H.length ≤ f → H'[f]? = some (.inst 343 (codeF (.ref o') (.ref s))) → H'[o']? = some (.list (os'.map vOd)) → Thrs os os.length os' → Q (.ref f) H') : CallW c (.glob 422) [.ref n] H Q X := by
  refine (fn_go g f_thread_jumps rfl (by kl_some) fun c' g' hv hd' => ?_).call
  rw [hn] at hv
  conv => arg 3; whnf
  repeat tlg_ne
  obtain ⟨I, hI⟩ : ∃ I : Nat → LM → HA → Prop, ∀ i m' H', I i m' H' ↔ (m'.lookup ("code" : Str) = some (.ref n) ∧ m'.lookup ("found" : Str) = some (.ref H.length) ∧ Ext [] H H' ∧ ∃ F, H'[H.length]? = some (.list (F.map vOd)) ∧ Thrs os i F) := ⟨_, fun _ _ _ => Iff.rfl⟩
  have hE : ∀ i m' H', I i m' H' → ∀ C : Prop, (m'.lookup ("code" : Str) = some (.ref n) → m'.lookup ("found" : Str) = some (.ref H.length) → Ext [] H H' → ∀ F, H'[H.length]? = some (.list (F.map vOd)) → Thrs os i F → C) → C := fun _ _ _ h C z => by obtain ⟨v1, v2, v3, F, v4, v5⟩ := (hI _ _ _).1 h; exact z v1 v2 v3 F v4 v5
  refine xs_for_list (n := o) (xs := os.map vOd) I hv (.name _ _) ?_ (fun i m' H' h => ((hI _ _ _).1 h).2.2.1.get (by simp) h1) ?_ ?_
  · repeat tlg_ne
    exact ⟨rfl, (hI _ _ _).2 ⟨by lcg_off, by lcg_off, Ext.refl.app, [], hs_last, rfl, by simp⟩⟩
  · intro i x m' H' hx h00
    refine hE _ _ _ h00 _ fun l1 l2 x1 F y1 y2 => ?_
    rw [List.getElem?_map] at hx
    obtain ⟨od, ho, rfl⟩ := Option.map_eq_some_iff.mp hx
    have hlt := (List.getElem?_eq_some_iff.mp ho).1
    have k0 := x1.get (by simp) h0
    have k1 := x1.get (by simp) h1
    have hFl := y2.1
    have hmem := List.mem_of_getElem? ho
    rcases od_cases od with ⟨t, rfl⟩ | ⟨t, rfl⟩ | ⟨e1, e2, e3, e4⟩
    · have e1 := @go_GO t
      repeat tlg_ne
      refine sp_last_goal g' (by kl_some) hv k1 hz hr (hr t (.inl hmem)) fun r H2 x2 hl => ?_
      replace y1 := x2.get (by simp) y1
      replace x1 := x1.trans x2
      repeat tlg_ne
      refine (hI _ _ _).2 ⟨by lcg_off, by lcg_off, by top_reprB, F ++ [.go r], by rw [List.map_append]; exact hs_here y1, y2.snoc ho ⟨r, rfl, hl⟩⟩
    · have e1 := @tst_GO t
      have e2 := @tst_FALSE t
      repeat tlg_ne
      refine sp_last_goal g' (by kl_some) hv k1 hz hr (hr t (.inr hmem)) fun r H2 x2 hl => ?_
      replace y1 := x2.get (by simp) y1
      replace x1 := x1.trans x2
      repeat tlg_ne
      refine (hI _ _ _).2 ⟨by lcg_off, by lcg_off, by top_reprB, F ++ [.tst r], by rw [List.map_append]; exact hs_here y1, y2.snoc ho ⟨r, rfl, hl⟩⟩
    · repeat tlg_ne
      have ht : Thr os od od := by cases od <;> first | rfl | exact absurd rfl (e3 _) | exact absurd rfl (e4 _)
      refine (hI _ _ _).2 ⟨by lcg_off, by lcg_off, by top_reprB, F ++ [od], by rw [List.map_append]; exact hs_here y1, y2.snoc ho ht⟩
  · intro m' H' h00
    refine hE _ _ _ h00 _ fun l1 l2 x1 F y1 y2 => ?_
    have k0 := x1.get (by simp) h0
    rw [List.length_map] at y2
    repeat tlg_ne
    exact hq _ _ F _ x1.app (by have := x1.1; lia) hs_last (hs_app y1) y2
end
/-! ### S6 -/
/-! frames with cells, comprehensions -/
noncomputable def freesOf : List (Str × NameKind) → List Str → List Str
  | [], acc => acc
  | (n, k) :: r, acc => if k == .free then freesOf r (n :: acc) else freesOf r acc
theorem freesOf_sub : ∀ {l : List (Str × NameKind)} {acc : List Str}, ∀ x ∈ acc, x ∈ freesOf l acc
  | [], acc, x, h => h
  | (n, k) :: r, acc, x, h => by
    unfold freesOf
    split
    · exact freesOf_sub x (.tail _ h)
    · exact freesOf_sub x h
theorem closure_of {scope : Scope} {frees : List Str} (e : freesOf scope.names [] = frees) (env : Env) (h : ∀ x ∈ frees, (env.cells.lookup x).isSome) : closureFor scope env = pure (frees.map fun x => (x, (env.cells.lookup x).getD 0)) := by
  subst e
  unfold closureFor
  have key : ∀ (l : List (Str × NameKind)) (acc : List Str), (∀ x ∈ freesOf l acc, (env.cells.lookup x).isSome) →
      (forIn l (acc.map fun x => (x, (env.cells.lookup x).getD 0)) fun x r => if x.2 == .free then do let a ← cellOf env x.1; pure (ForInStep.yield ((x.1, a) :: r)) else pure (ForInStep.yield r) : Sem (List (Str × Addr))) = pure ((freesOf l acc).map fun x => (x, (env.cells.lookup x).getD 0)) := by
    intro l
    induction l with
    | nil => intro acc _; rfl
    | cons x l ih =>
      intro acc hs
      obtain ⟨n, k⟩ := x
      rw [List.forIn_cons]
      unfold freesOf at hs ⊢
      cases hk : k == NameKind.free with
      | true =>
        simp only [hk, if_true] at hs ⊢
        have hn := hs n (freesOf_sub n (.head _))
        obtain ⟨a, ha⟩ := Option.isSome_iff_exists.mp hn
        have hc : cellOf env n = pure a := by unfold cellOf; rw [ha]
        rw [hc]
        simp only [pure_bind]
        have := ih (n :: acc) hs
        rw [List.map_cons, ha] at this
        exact this
      | false =>
        simp only [hk, Bool.false_eq_true, if_false] at hs ⊢
        simp only [pure_bind]
        exact ih acc hs
  have := key scope.names [] h
  simpa using this
noncomputable def fncChk (K : Frag) (f : Nat) (ks : List Str) : Bool := match K.lookup f with
  | some ⟨_, _, .func fd, _⟩ => codeIn K fd.code fd.qualname && (match fd.body with | .stmts _ => true | _ => false) && fd.globals == mainGlobals && fd.builtins == builtinsNs && fd.closure.isEmpty && decide (fd.params.args.map (·.arg)).Nodup && decide ks.Nodup &&
      (fd.params.args.map (·.arg)).all (fun y => fd.scope.names.lookup y == some .local || (fd.scope.names.lookup y == some .cell && ks.contains y)) && !fd.scope.isCoroutine && !fd.scope.isGenerator && fd.scope.kind == .function
  | _ => false
theorem fncOk {K : Frag} {f : Nat} {ks : List Str} (h : fncChk K f ks = true) (hb : ∀ vs : List Value, vs.length = (namesOf K f).length → bindArgs (fdOf K f) ⟨vs, []⟩ = pure ((namesOf K f).zip vs))
    (hc : ∀ n i k, ks[i]? = some k → (cellsFrom n (fdOf K f).scope.names []).lookup k = some (n + i)) : FnC K f (fdOf K f) (namesOf K f) ks (bodyOf K f) := by
  unfold fncChk at h
  unfold namesOf bodyOf
  unfold namesOf at hb
  generalize hl : K.lookup f = r at h
  have hfd : ∀ oc od fd osl, r = some ⟨oc, od, .func fd, osl⟩ → fdOf K f = fd := fun oc od fd osl e => by unfold fdOf; rw [hl, e]
  split at h
  · rename_i oc od fd osl
    rw [hfd _ _ _ _ rfl] at hb hc ⊢
    simp only [Bool.and_eq_true, List.all_eq_true, decide_eq_true_eq, beq_iff_eq, List.isEmpty_iff, Bool.not_eq_true', Bool.or_eq_true, List.contains_iff_mem] at h
    obtain ⟨⟨⟨⟨⟨⟨⟨⟨⟨⟨h1, h2⟩, h3⟩, h4⟩, h5⟩, h6⟩, h7⟩, h8⟩, h9⟩, h10⟩, h11⟩ := h
    refine ⟨⟨_, _, _, hl⟩, h1, ?_, h3, h4, h5, hb, h6, h7, h8, hc, h9, h10, h11⟩
    revert h2
    cases fd.body <;> simp
  · cases h
theorem fn_goC {c : Cx} {p : Params} {H : HA} {Q : V → HA → Prop} {X : Addr → HA → Prop} {xs : List V} {f : Nat} {names ks : List Str} {m0 : LM} {cvs : List (Option V)} (g : Gd c p) (h : FnC (KK p) f (fdOf (KK p) f) names ks (bodyOf (KK p) f))
    (hl : names.length = xs.length) (hd : 1 ≤ c.d) (hm0 : ∀ q ∈ m0, (names.zip xs).lookup q.1 = some q.2 ∧ (fdOf (KK p) f).scope.names.lookup q.1 = some .local) (hkl : ks.length = cvs.length)
    (hcv : ∀ (i : Nat) (k : Str) (cv : Option V), ks[i]? = some k → cvs[i]? = some cv → match cv with | none => k ∉ names | some v => (names.zip xs).lookup k = some v ∧ (fdOf (KK p) f).scope.names.lookup k ≠ some .local)
    (e : ∀ c', Gd c' p → c'.hv = c.hv → c'.B = c.B → c'.d + 1 = c.d → ExW c' ⟨(fdOf (KK p) f).qualname, (fdOf (KK p) f).scope, f, (fdOf (KK p) f).code, ks.zipIdx H.length, true⟩ (bodyOf (KK p) f) m0 (H ++ cvs.map .cell) (FnK Q) (FnX X)) : CodeW c f xs H Q X :=
  fnc_code (by rw [g.K]; exact h) hl hd hm0 hkl hcv (e _ g.next rfl rfl (Nat.sub_add_cancel hd))
theorem f_moved_orders {p : Params} : FnC (KK p) 401 (fdOf (KK p) 401) [("code" : Str), ("orders" : Str), ("lead" : Str)] [("lead" : Str)] (bodyOf (KK p) 401) := by
  have e : namesOf (KK p) 401 = [("code" : Str), ("orders" : Str), ("lead" : Str)] := by kernel_rfl
  have := fncOk (K := KK p) (f := 401) (ks := [("lead" : Str)]) (by kernel_rfl) (fun vs h => by
    rw [e] at h
    obtain ⟨a, b, d, rfl⟩ := len3 h
    kernel_rfl) (fun n i k h => by
    rcases i with _ | i
    · cases h; kernel_rfl
    · simp at h)
  rw [e] at this
  exact this
section
variable {c : Cx} {p : Params} {H : HA} {Q : V → HA → Prop} {X : Addr → HA → Prop}
theorem sp_moved (g : Gd c p) (hd : 3 ≤ c.d) (hn : c.hv = none) {n o s a b : Nat} {os : List Od} {st L : List Nat} (h0 : H[n]? = some (.inst 343 (codeF (.ref o) (.ref s)))) (h1 : H[a]? = some (.list (os.map vOd))) (h2 : H[s]? = some (.list (natV st))) (h3 : H[b]? = some (.list (natV L)))
    (hst : st.length ≤ 100) (hz : os.length ≤ 1000) (hL : L.length ≤ 1000) (hr : ∀ t, Od.go t ∈ os ∨ Od.tst t ∈ os → t < L.length) (hs : ∀ t ∈ st, t < L.length)
    (hq : ∀ f o' s' H', Ext [] H H' → H.length ≤ f → H'[f]? = some (.inst 343 (codeF (.ref o') (.ref s'))) → H'[o']? = some (.list ((os.map (ledO L)).map vOd)) → H'[s']? = some (.list (natV (st.map fun q => L.getD q 0))) → Q (.ref f) H') : CallW c (.glob 401) [.ref n, .ref a, .ref b] H Q X := by
  refine (fn_goC (m0 := [(("code" : Str), .ref n), (("orders" : Str), .ref a)]) (cvs := [some (.ref b)]) g f_moved_orders rfl (by kl_some) ?_ rfl ?_ fun c' g' hv hB hd' => ?_).call
  · intro q hq
    simp only [List.mem_cons, List.not_mem_nil, or_false] at hq
    rcases hq with rfl | rfl
    · exact ⟨by kernel_rfl, by kernel_rfl⟩
    · exact ⟨by kernel_rfl, by kernel_rfl⟩
  · intro i k cv h1 h2
    rcases i with _ | i
    · cases h1; cases h2; exact ⟨by kernel_rfl, by
        have e : (fdOf (KK p) 401).scope.names.lookup ("lead" : Str) = some .cell := by kernel_rfl
        rw [e]; simp⟩
    · simp at h1
  rw [hn] at hv
  conv => arg 3; whnf
  repeat tlg_ne
  have c0 : (H ++ [Ob.cell (some (.ref b))])[H.length]? = some (.cell (some (.ref b))) := hs_last
  obtain ⟨I, hI⟩ : ∃ I : Nat → LM → HA → Prop, ∀ i m' H', I i m' H' ↔ (m'.lookup ("code" : Str) = some (.ref n) ∧ m'.lookup ("found" : Str) = some (.ref (H.length + 1)) ∧ Ext [] H H' ∧ H'[H.length]? = some (.cell (some (.ref b))) ∧ H'[H.length + 1]? = some (.list (((os.take i).map (ledO L)).map vOd))) := ⟨_, fun _ _ _ => Iff.rfl⟩
  have hE : ∀ i m' H', I i m' H' → ∀ C : Prop, (m'.lookup ("code" : Str) = some (.ref n) → m'.lookup ("found" : Str) = some (.ref (H.length + 1)) → Ext [] H H' → H'[H.length]? = some (.cell (some (.ref b))) → H'[H.length + 1]? = some (.list (((os.take i).map (ledO L)).map vOd)) → C) → C := fun _ _ _ h C z => by obtain ⟨v1, v2, v3, v4, v5⟩ := (hI _ _ _).1 h; exact z v1 v2 v3 v4 v5
  refine xs_for_list (n := a) (xs := os.map vOd) I hv (.name _ _) ?_ (fun i m' H' h => ((hI _ _ _).1 h).2.2.1.get (by simp) h1) ?_ ?_
  · repeat tlg_ne
    refine ⟨rfl, (hI _ _ _).2 ⟨by lcg_off, ?_, (Ext.refl.app).app, hs_app hs_last, ?_⟩⟩
    · rw [List.length_append]; exact lk_set
    · have := hs_last (H := H ++ [Ob.cell (some (.ref b))]) (x := .list [])
      rw [List.length_append] at this; exact this
  · intro i x m' H' hx h00
    refine hE _ _ _ h00 _ fun l1 l2 x1 y0 y1 => ?_
    rw [List.getElem?_map] at hx
    obtain ⟨od, ho, rfl⟩ := Option.map_eq_some_iff.mp hx
    have hlt := (List.getElem?_eq_some_iff.mp ho).1
    have hmem := List.mem_of_getElem? ho
    have k3 := x1.get (by simp) h3
    have htk : os.take (i + 1) = os.take i ++ [od] := by rw [List.take_add_one, ho]; rfl
    have hlen : (os.take i).length ≤ 1000 := by rw [List.length_take]; lia
    rcases od_cases od with ⟨t, rfl⟩ | ⟨t, rfl⟩ | ⟨e1, e2, e3, e4⟩
    · have e1 := @go_GO t
      have ht := hr t (.inl hmem)
      have hg := natV_get ht
      repeat tlg_ne
      exact (hI _ _ _).2 ⟨by lcg_off, by lcg_off, by top_reprB, hs_skip (by kl_some) y0, by rw [htk, List.map_append, List.map_append]; exact hs_here y1⟩
    · have e1 := @tst_GO t
      have e2 := @tst_FALSE t
      have ht := hr t (.inr hmem)
      have hg := natV_get ht
      repeat tlg_ne
      exact (hI _ _ _).2 ⟨by lcg_off, by lcg_off, by top_reprB, hs_skip (by kl_some) y0, by rw [htk, List.map_append, List.map_append]; exact hs_here y1⟩
    · have e5 : ledO L od = od := by cases od <;> first | rfl | exact absurd rfl (e3 _) | exact absurd rfl (e4 _)
      repeat tlg_ne
      exact (hI _ _ _).2 ⟨by lcg_off, by lcg_off, by top_reprB, hs_skip (by kl_some) y0, by rw [htk, List.map_append, List.map_append]; simp only [List.map_cons, List.map_nil, e5]; exact hs_here y1⟩
  · intro m' H' h00
    refine hE _ _ _ h00 _ fun l1 l2 x1 y0 y1 => ?_
    rw [List.length_map, List.take_length] at y1
    have k0 := x1.get (by simp) h0
    have k2 := x1.get (by simp) h2
    have k3 := x1.get (by simp) h3
    have hHl : H.length < H'.length := (List.getElem?_eq_some_iff.mp y0).1
    have hHl2 : H.length + 1 < H'.length := (List.getElem?_eq_some_iff.mp y1).1
    have hbl : b < H'.length := (List.getElem?_eq_some_iff.mp k3).1
    repeat tlg_ne
    refine ev_comp (frees := [("lead" : Str)]) (N := (natV st).length) (G := fun H => H[s]? = some (.list (natV st))) (item := fun i => (natV st).getD i .none) hv ⟨fun env h => closure_of (by kernel_rfl) env h, ?_, by kernel_rfl, ?_, ?_⟩ (first_val ?_)
    · intro x hx; rw [List.mem_singleton.mp hx]; rfl
    · intro x hx; revert x; decide +kernel
    · intro x hx; revert x; decide +kernel
    · repeat tlg_ne
      refine ⟨iter_list k2, fun i m2 H2 => Ext [] H' H2 ∧ H2[H'.length]? = some (.list (natV ((st.take i).map fun q => L.getD q 0))), ⟨Ext.refl.app, hs_last⟩, fun i m2 H2 h => h.1.get (by simp) k2, ?_, ?_⟩
      · rintro i m2 H2 hi ⟨x2, y2⟩
        rw [List.length_map] at hi
        have hsi := List.getElem?_eq_getElem hi
        generalize st[i] = q at hsi
        have hgi : (natV st).getD i .none = .int ((q : Nat) : Int) := by rw [List.getD_eq_getElem?_getD, List.getElem?_map, hsi]; rfl
        show TgW _ _ _ ((natV st).getD i .none) _ _ _
        rw [hgi]
        have hql := hs q (List.mem_of_getElem? hsi)
        have hg := natV_get hql
        have k4 := x2.get (by simp) k3
        have c4 := x2.get (by simp) y0
        repeat tlg_ne
        refine ⟨_, y2, by rw [List.length_map, List.length_map, List.length_take]; lia, x2.setN (Nat.le_refl _), ?_⟩
        rw [List.take_add_one, hsi, hs_here y2]
        simp [natV]
      · rintro m2 H2 ⟨x2, y2⟩
        rw [List.length_map, List.take_length] at y2
        have w0 := x2.get (by simp) y1
        repeat tlg_ne
        exact hq _ _ _ _ (x1.trans x2).app (by have := x2.1; lia) hs_last (hs_app w0) (hs_app y2)
end
/-! ### S7 -/
/-- known_tests at work: found and lead behind i orders -/
inductive KS (P : Nat → Prop) (os : List Od) : Nat → List Od → List Nat → Prop
  | nil : KS P os 0 [] []
  | keep {i : Nat} {F : List Od} {L : List Nat} {o : Od} : KS P os i F L → os[i]? = some o → (∀ t F0 k, o = .tst t → F = F0 ++ [.push k] → P i) → KS P os (i + 1) (F ++ [o]) (L ++ [F.length])
  | held {i t : Nat} {F : List Od} {L : List Nat} {k : Int} : KS P os i (F ++ [.push k]) L → os[i]? = some (.tst t) → ¬ P i → k ≠ 0 → KS P os (i + 1) F (L ++ [F.length])
  | goes {i t : Nat} {F : List Od} {L : List Nat} {k : Int} : KS P os i (F ++ [.push k]) L → os[i]? = some (.tst t) → ¬ P i → k = 0 → KS P os (i + 1) (F ++ [.go t]) (L ++ [F.length])
theorem KS.len {P : Nat → Prop} {os : List Od} {i : Nat} {F : List Od} {L : List Nat} (h : KS P os i F L) : L.length = i ∧ F.length ≤ i := by
  induction h with
  | nil => exact ⟨rfl, Nat.le_refl _⟩
  | keep _ _ _ ih => simp; lia
  | held _ _ _ _ ih => simp at ih ⊢; lia
  | goes _ _ _ _ ih => simp at ih ⊢; lia
theorem KS.tgt {P : Nat → Prop} {os : List Od} {i : Nat} {F : List Od} {L : List Nat} (h : KS P os i F L) : ∀ t, Od.go t ∈ F ∨ Od.tst t ∈ F → Od.go t ∈ os ∨ Od.tst t ∈ os := by
  induction h with
  | nil => intro t ht; simp at ht
  | keep _ ho _ ih =>
    intro t ht
    simp only [List.mem_append, List.mem_singleton] at ht
    rcases ht with (ht | ht) | (ht | ht)
    · exact ih t (.inl ht)
    · rw [ht]; exact .inl (List.mem_of_getElem? ho)
    · exact ih t (.inr ht)
    · rw [ht]; exact .inr (List.mem_of_getElem? ho)
  | held _ ho _ _ ih =>
    intro t ht
    exact ih t (ht.imp (List.mem_append_left _) (List.mem_append_left _))
  | goes _ ho _ _ ih =>
    intro t ht
    simp only [List.mem_append, List.mem_singleton] at ht
    rcases ht with (ht | ht) | (ht | ht)
    · exact ih t (.inl (List.mem_append_left _ ht))
    · cases ht; exact .inr (List.mem_of_getElem? ho)
    · exact ih t (.inr (List.mem_append_left _ ht))
    · cases ht
theorem push_of {o : Od} : (∃ k, o = .push k) ∨ ((wOd o == ("PUSH" : Str)) = false ∧ ∀ k, o ≠ .push k) := by
  cases o
  case push k => exact .inl ⟨k, rfl⟩
  all_goals exact .inr ⟨by kernel_rfl, by simp⟩
theorem push_PUSH {k : Int} : (wOd (.push k) == ("PUSH" : Str)) = true := by kernel_rfl
theorem tst_of {o : Od} : (∃ t, o = .tst t) ∨ ((wOd o == ("FALSE" : Str)) = false ∧ ∀ t, o ≠ .tst t) := by
  cases o
  case tst t => exact .inl ⟨t, rfl⟩
  all_goals exact .inr ⟨by kernel_rfl, by simp⟩
section
variable {c : Cx} {p : Params} {H : HA} {Q : V → HA → Prop} {X : Addr → HA → Prop}
theorem sp_known (g : Gd c p) (hd : 4 ≤ c.d) (hn : c.hv = none) {n o s : Nat} {os : List Od} {st : List Nat} (h0 : H[n]? = some (.inst 343 (codeF (.ref o) (.ref s)))) (h1 : H[o]? = some (.list (os.map vOd))) (h2 : H[s]? = some (.list (natV st)))
    (hst : st.length ≤ 100) (hz : os.length ≤ 1000) (hr : InR os) (hs : ∀ t ∈ st, t < os.length)
    (hq : ∀ f o' s' F L H', Ext [] H H' → H.length ≤ f → KS (fun k => k ∈ st ∨ Od.go k ∈ os ∨ Od.tst k ∈ os) os os.length F L → H'[f]? = some (.inst 343 (codeF (.ref o') (.ref s'))) → H'[o']? = some (.list ((F.map (ledO L)).map vOd)) → H'[s']? = some (.list (natV (st.map fun q => L.getD q 0))) → Q (.ref f) H') :
    CallW c (.glob 408) [.ref n] H Q X := by
  refine (fn_go g f_known_tests rfl (by kl_some) fun c' g' hv hd' => ?_).call
  rw [hn] at hv
  conv => arg 3; whnf
  repeat tlg_ne
  refine sp_goals_of g' (by kl_some) hv h0 h1 h2 hst hz fun gf H1 es x1 l1 y1 z1 => ?_
  repeat tlg_ne
  have hlt1 : gf < H1.length := (List.getElem?_eq_some_iff.mp y1).1
  have hl2 : (H1 ++ [Ob.list []]).length = H1.length + 1 := by simp
  rw [hl2]
  generalize hP : (fun k => k ∈ st ∨ Od.go k ∈ os ∨ Od.tst k ∈ os) = P at hq z1
  obtain ⟨I, hI⟩ : ∃ I : Nat → LM → HA → Prop, ∀ i m' H', I i m' H' ↔ (m'.lookup ("code" : Str) = some (.ref n) ∧ m'.lookup ("goals" : Str) = some (.ref gf) ∧ m'.lookup ("found" : Str) = some (.ref H1.length) ∧ m'.lookup ("lead" : Str) = some (.ref (H1.length + 1)) ∧ Ext [] H1 H' ∧
    ∃ F L, KS P os i F L ∧ H'[H1.length]? = some (.list (F.map vOd)) ∧ H'[H1.length + 1]? = some (.list (natV L))) := ⟨_, fun _ _ _ => Iff.rfl⟩
  have hE : ∀ i m' H', I i m' H' → ∀ C : Prop, (m'.lookup ("code" : Str) = some (.ref n) → m'.lookup ("goals" : Str) = some (.ref gf) → m'.lookup ("found" : Str) = some (.ref H1.length) → m'.lookup ("lead" : Str) = some (.ref (H1.length + 1)) → Ext [] H1 H' → ∀ F L, KS P os i F L → H'[H1.length]? = some (.list (F.map vOd)) → H'[H1.length + 1]? = some (.list (natV L)) → C) → C := fun _ _ _ h C z => by obtain ⟨v1, v2, v3, v4, v5, F, L, v6, v7, v8⟩ := (hI _ _ _).1 h; exact z v1 v2 v3 v4 v5 F L v6 v7 v8
  refine xs_for_enum (n := o) (xs := os.map vOd) I hv ⟨n_enumerate g', b_enumerate, by kernel_rfl, by decide +kernel, by decide +kernel⟩ ?_ (fun i m' H' h => ((hI _ _ _).1 h).2.2.2.2.1.get (by simp) (x1.get (by simp) h1)) ?_ ?_
  · have k0 := x1.get (by simp) h0
    repeat tlg_ne
    exact ⟨rfl, (hI _ _ _).2 ⟨by lcg_off, by lcg_off, by lcg_off, by lcg_off, Ext.refl.app.app, [], [], .nil, hs_app hs_last, by rw [← hl2]; exact hs_last⟩⟩
  · intro i x m' H2 hx h00
    refine hE _ _ _ h00 _ fun l1 l2 l3 l4 x2 F L hk y2 y3 => ?_
    rw [List.getElem?_map] at hx
    obtain ⟨od, ho, rfl⟩ := Option.map_eq_some_iff.mp hx
    have hlt := (List.getElem?_eq_some_iff.mp ho).1
    obtain ⟨hL, hF⟩ := hk.len
    have yg := x2.get (by simp) y1
    have keep : ∀ F' : List Od, F' = F → (∀ t F0 k, od = .tst t → F = F0 ++ [.push k] → P i) → ∀ (m' : LM) (H' : HA), m'.lookup ("code" : Str) = some (.ref n) → m'.lookup ("goals" : Str) = some (.ref gf) → m'.lookup ("found" : Str) = some (.ref H1.length) → m'.lookup ("lead" : Str) = some (.ref (H1.length + 1)) → Ext [] H1 H' →
        H'[H1.length]? = some (.list (List.map vOd F' ++ [vOd od])) → H'[H1.length + 1]? = some (.list (natV L ++ [.int ((List.map vOd F').length : Nat)])) → I (i + 1) m' H' := fun F' e hc m' H' a1 a2 a3 a4 a5 a6 a7 => by
      subst e
      exact (hI _ _ _).2 ⟨a1, a2, a3, a4, a5, _, _, .keep hk ho hc, by rw [List.map_append]; exact a6, by rw [List.length_map] at a7; simpa [natV] using a7⟩
    rcases @tst_of od with ⟨t, rfl⟩ | ⟨e1, e2⟩
    · have e1 := @tst_FALSE t
      rcases List.eq_nil_or_concat F with rfl | ⟨F0, l, rfl⟩
      · repeat tlg_ne
        exact keep [] rfl (fun _ F0 _ _ z => by cases F0 <;> cases z) _ _ (by lcg_off) (by lcg_off) (by lcg_off) (by lcg_off) (by top_reprB) (hs_here (hs_skip (by kl_some) y2)) (hs_skip (by kl_some) (hs_here y3))
      · rw [List.concat_eq_append] at *
        have hlen : (List.map vOd (F0 ++ [l])).length = F0.length + 1 := by simp
        have hF' : F0.length + 1 ≤ i := by simpa using hF
        have hx' : (List.map vOd (F0 ++ [l]))[(((List.map vOd (F0 ++ [l])).length : Int) - 1).toNat]? = some (vOd l) := by
          have e : (((List.map vOd (F0 ++ [l])).length : Int) - 1).toNat = F0.length := by lia
          rw [e]; simp
        have hsp : splitL (List.map vOd (F0 ++ [l])) = some (List.map vOd F0, vOd l) := by rw [List.map_append]; exact splitL_cat
        by_cases hPi : P i
        · have d1 := (z1 i).1 hPi
          repeat tlg_ne
          exact keep _ rfl (fun _ _ _ _ _ => hPi) _ _ (by lcg_off) (by lcg_off) (by lcg_off) (by lcg_off) (by top_reprB) (hs_here (hs_skip (by kl_some) y2)) (hs_skip (by kl_some) (hs_here y3))
        · have d1 := (z1 i).2 hPi
          rcases @push_of l with ⟨k, rfl⟩ | ⟨e3, e4⟩
          · have e3 := @push_PUSH k
            clear keep
            by_cases hk0 : k = 0
            · repeat tlg_ne
              exact (hI _ _ _).2 ⟨by lcg_off, by lcg_off, by lcg_off, by lcg_off, by top_reprB, _, _, .goes hk ho hPi hk0, by rw [List.map_append]; exact hs_here (hs_skip (by kl_some) (hs_here y2)), by
                have := hs_skip (x := .list (List.map vOd F0 ++ [vOd (.go t)])) (n := H1.length) (k := H1.length + 1) (by kl_some) (hs_here (x := .list (natV L ++ [V.int ((List.map vOd F0).length : Nat)])) (hs_skip (x := .list (List.map vOd F0)) (n := H1.length) (by kl_some) y3))
                rw [List.length_map] at this; simpa [natV] using this⟩
            · repeat tlg_ne
              exact (hI _ _ _).2 ⟨by lcg_off, by lcg_off, by lcg_off, by lcg_off, by top_reprB, _, _, .held hk ho hPi hk0, hs_skip (by kl_some) (hs_here y2), by
                have := hs_here (x := .list (natV L ++ [V.int ((List.map vOd F0).length : Nat)])) (hs_skip (x := .list (List.map vOd F0)) (n := H1.length) (by kl_some) y3)
                rw [List.length_map] at this; simpa [natV] using this⟩
          · repeat tlg_ne
            exact keep _ rfl (fun _ F1 k1 _ z => by
              have := (List.append_inj' z rfl).2
              cases this; exact absurd rfl (e4 _)) _ _ (by lcg_off) (by lcg_off) (by lcg_off) (by lcg_off) (by top_reprB) (hs_here (hs_skip (by kl_some) y2)) (hs_skip (by kl_some) (hs_here y3))
    · rcases List.eq_nil_or_concat F with rfl | ⟨F0, l, rfl⟩
      · repeat tlg_ne
        exact keep [] rfl (fun _ F0 _ _ z => by cases F0 <;> cases z) _ _ (by lcg_off) (by lcg_off) (by lcg_off) (by lcg_off) (by top_reprB) (hs_here (hs_skip (by kl_some) y2)) (hs_skip (by kl_some) (hs_here y3))
      · rw [List.concat_eq_append] at *
        have hlen : (List.map vOd (F0 ++ [l])).length = F0.length + 1 := by simp
        have hF' : F0.length + 1 ≤ i := by simpa using hF
        have hx' : (List.map vOd (F0 ++ [l]))[(((List.map vOd (F0 ++ [l])).length : Int) - 1).toNat]? = some (vOd l) := by
          have e : (((List.map vOd (F0 ++ [l])).length : Int) - 1).toNat = F0.length := by lia
          rw [e]; simp
        by_cases hPi : P i
        · have d1 := (z1 i).1 hPi
          repeat tlg_ne
          exact keep _ rfl (fun _ _ _ _ _ => hPi) _ _ (by lcg_off) (by lcg_off) (by lcg_off) (by lcg_off) (by top_reprB) (hs_here (hs_skip (by kl_some) y2)) (hs_skip (by kl_some) (hs_here y3))
        · have d1 := (z1 i).2 hPi
          repeat tlg_ne
          exact keep _ rfl (fun t _ _ z _ => absurd z (e2 t)) _ _ (by lcg_off) (by lcg_off) (by lcg_off) (by lcg_off) (by top_reprB) (hs_here (hs_skip (by kl_some) y2)) (hs_skip (by kl_some) (hs_here y3))
  · intro m' H2 h00
    refine hE _ _ _ h00 _ fun l1 l2 l3 l4 x2 F L hk y2 y3 => ?_
    rw [List.length_map] at hk
    obtain ⟨hL, hF⟩ := hk.len
    have x3 := x1.trans x2
    have k0 := x3.get (by simp) h0
    have k2 := x3.get (by simp) h2
    repeat tlg_ne
    refine sp_moved g' (by kl_some) hv k0 y2 k2 y3 hst (by kl_some) (by kl_some) (fun t ht => by rw [hL]; exact hr t (hk.tgt t ht)) (fun t ht => by rw [hL]; exact hs t ht) fun f o' s' H3 x4 l6 w1 w2 w3 => ?_
    repeat tlg_ne
    exact hq f o' s' F L H3 (x3.trans x4) (by have := x3.1; lia) hk w1 w2 w3
end
/-! ### S8 -/
theorem row_no {r : Rw} : (wRow r == ("IF" : Str)) = false ∧ (wRow r == ("DATA" : Str)) = false ∧ (wRow r == ("WHILE" : Str)) = false ∧ (wRow r == ("WEND" : Str)) = false ∧ (wRow r == ("DEFLINES" : Str)) = false ∧ (wRow r == ("FNEND" : Str)) = false ∧ (wRow r == ("FOR" : Str)) = false ∧ (wRow r == ("NEXT" : Str)) = false := by
  cases r <;> exact ⟨by kernel_rfl, by kernel_rfl, by kernel_rfl, by kernel_rfl, by kernel_rfl, by kernel_rfl, by kernel_rfl, by kernel_rfl⟩
theorem flV_cat {rows : List Rw} {r : Rw} : flV (rows ++ [r]) = flV rows ++ [.tup [.int (10 + (rows.length : Int)), vRow r]] := by
  unfold flV; rw [List.mapIdx_append]; simp
theorem flV_len {rows : List Rw} : (flV rows).length = rows.length := by unfold flV; simp
theorem plV_set {n : Nat} : dset (plV n) (10 + (n : Int)) (.int (n : Int)) = plV (n + 1) := by
  unfold dset
  rw [if_neg]
  · unfold plV; rw [List.range_succ, List.map_append]; rfl
  · rw [List.any_eq_true]
    rintro ⟨x, hx, hx'⟩
    unfold plV at hx
    obtain ⟨i, hi, rfl⟩ := List.mem_map.mp hx
    rw [List.mem_range] at hi
    simp at hx'; lia
theorem plV_len {n : Nat} : (plV n).length = n := by unfold plV; simp
section
variable {c : Cx} {p : Params} {H : HA} {Q : V → HA → Prop} {X : Addr → HA → Prop}
theorem sp_put_all (g : Gd c p) (hd : 2 ≤ c.d) {n r s : Nat} {l : Int} {row : Rw} {xs : List V} {q d a lo fn : V} (hn : c.hv = none) (hf : H[n]? = some (.inst 439 (flatF (.ref r) q d a lo fn))) (hx : H[r]? = some (.list xs)) (hz : xs.length ≤ 1000) (hs : H[s]? = some (.list [vRow row])) (hsr : s ≠ r)
    (hq : Q .none (H.set r (.list (xs ++ [V.tup [.int l, vRow row]])))) : CallW c (.glob 464) [.ref n, .int l, .ref s] H Q X := by
  refine (fn_go g f_put_all rfl (by kl_some) fun c' g' hv hd' => ?_).call
  rw [hn] at hv
  conv => arg 3; whnf
  obtain ⟨z0, _⟩ := @row_no row
  repeat tlg_ne
  obtain ⟨I, hI⟩ : ∃ I : Nat → LM → HA → Prop, ∀ i m' H', I i m' H' ↔ (m'.lookup ("flat" : Str) = some (.ref n) ∧ m'.lookup ("line" : Str) = some (.int l) ∧ ((i = 0 ∧ H' = H) ∨ (i = 1 ∧ H' = H.set r (.list (xs ++ [V.tup [.int l, vRow row]]))))) := ⟨_, fun _ _ _ => Iff.rfl⟩
  have hE : ∀ i m' H', I i m' H' → ∀ C : Prop, (m'.lookup ("flat" : Str) = some (.ref n) → m'.lookup ("line" : Str) = some (.int l) → (((i = 0 ∧ H' = H) ∨ (i = 1 ∧ H' = H.set r (.list (xs ++ [V.tup [.int l, vRow row]]))))) → C) → C := fun _ _ _ h C z => by obtain ⟨v1, v2, v3⟩ := (hI _ _ _).1 h; exact z v1 v2 v3
  refine xs_for_list (n := s) (xs := [vRow row]) I hv (.name _ _) ?_ (fun i m' H' h => by
    rcases ((hI _ _ _).1 h).2.2 with ⟨_, rfl⟩ | ⟨_, rfl⟩
    · exact hs
    · exact hs_skip (Ne.symm hsr) hs) ?_ ?_
  · repeat tlg_ne
    exact ⟨rfl, (hI _ _ _).2 ⟨by lcg_off, by lcg_off, .inl ⟨rfl, rfl⟩⟩⟩
  · intro i x m' H' hx' h00
    refine hE _ _ _ h00 _ fun l1 l2 hc => ?_
    rcases i with _ | i
    · cases hx'
      rcases hc with ⟨_, rfl⟩ | ⟨z, _⟩
      · repeat tlg_ne
        refine sp_put_row_of g' (by kl_some) hv hf rfl hx hz ?_
        repeat tlg_ne
        exact (hI _ _ _).2 ⟨by lcg_off, by lcg_off, .inr ⟨rfl, rfl⟩⟩
      · cases z
    · simp at hx'
  · intro m' H' h00
    refine hE _ _ _ h00 _ fun l1 l2 hc => ?_
    rcases hc with ⟨z, _⟩ | ⟨_, rfl⟩
    · cases z
    · repeat tlg_ne
      exact hq
theorem sp_gather (g : Gd c p) (hd : 2 ≤ c.d) {n r : Nat} {rows : List Rw} {q d a lo fn : V} (hn : c.hv = none) (hf : H[n]? = some (.inst 439 (flatF (.ref r) q d a lo fn))) (hx : H[r]? = some (.list (flV rows)))
    (hq : ∀ H', Ext [] H H' → Q .none H') : CallW c (.glob 471) [.ref n] H Q X := by
  refine (fn_go g f_gather rfl (by kl_some) fun c' g' hv hd' => ?_).call
  rw [hn] at hv
  conv => arg 3; whnf
  repeat tlg_ne
  refine xs_for_enum (n := r) (xs := flV rows) (fun i m' H' => Ext [] H H') hv ⟨n_enumerate g', b_enumerate, by kernel_rfl, by decide +kernel, by decide +kernel⟩ ?_ (fun i m' H' h => h.get (by simp) hx) ?_ ?_
  · repeat tlg_ne
    exact ⟨rfl, Ext.refl.app.app.app⟩
  · rintro i x m' H' hx' h
    obtain ⟨row, hr, rfl⟩ : ∃ row, rows[i]? = some row ∧ x = .tup [.int (10 + (i : Int)), vRow row] := by
      unfold flV at hx'
      rw [List.getElem?_mapIdx] at hx'
      obtain ⟨row, h1, h2⟩ := Option.map_eq_some_iff.mp hx'
      exact ⟨row, h1, h2.symm⟩
    obtain ⟨z0, z1, z2, z3, z4, z5, z6, z7⟩ := @row_no row
    repeat tlg_ne
    exact h
  · rintro m' H' h
    repeat tlg_ne
    exact hq _ h
theorem sp_flatten (g : Gd c p) (hd : 4 ≤ c.d) {n : Nat} {rows : List Rw} {xs : List V} (hn : c.hv = none) (hx : H[n]? = some (.list xs)) (hl : xs.length = rows.length) (hz : rows.length ≤ 8)
    (hr : ∀ (i : Nat) (r : Rw), rows[i]? = some r → ∃ s : Nat, xs[i]? = some (.tup [.int (10 + (i : Int)), .ref s]) ∧ H[s]? = some (.list [vRow r]))
    (hq : ∀ f r q d a lo fn H', Ext [] H H' → H.length ≤ f → H'[f]? = some (.inst 439 (flatF (.ref r) (.ref q) d a lo fn)) → H'[r]? = some (.list (flV rows)) → H'[q]? = some (.dictI (plV rows.length)) → Q (.ref f) H') : CallW c (.glob 492) [.ref n] H Q X := by
  refine (fn_go g f_flatten rfl (by kl_some) fun c' g' hv hd' => ?_).call
  rw [hn] at hv
  conv => arg 3; whnf
  repeat tlg_ne
  obtain ⟨I, hI⟩ : ∃ I : Nat → LM → HA → Prop, ∀ i m' H', I i m' H' ↔ (m'.lookup ("flat" : Str) = some (.ref H.length) ∧ Ext [] H H' ∧ H'[H.length]? = some (.inst 439 (flatF (.ref (H.length + 1)) (.ref (H.length + 2)) (.ref (H.length + 3)) (.ref (H.length + 4)) (.ref (H.length + 5)) (.ref (H.length + 6)))) ∧
      H'[H.length + 1]? = some (.list (flV (rows.take i))) ∧ H'[H.length + 2]? = some (.dictI (plV i))) := ⟨_, fun _ _ _ => Iff.rfl⟩
  have hE : ∀ i m' H', I i m' H' → ∀ C : Prop, (m'.lookup ("flat" : Str) = some (.ref H.length) → Ext [] H H' → H'[H.length]? = some (.inst 439 (flatF (.ref (H.length + 1)) (.ref (H.length + 2)) (.ref (H.length + 3)) (.ref (H.length + 4)) (.ref (H.length + 5)) (.ref (H.length + 6)))) → H'[H.length + 1]? = some (.list (flV (rows.take i))) → H'[H.length + 2]? = some (.dictI (plV i)) → C) → C := fun _ _ _ h C z => by obtain ⟨v1, v2, v3, v4, v5⟩ := (hI _ _ _).1 h; exact z v1 v2 v3 v4 v5
  refine xs_for_list (n := n) (xs := xs) I hv (.tup _ _ _) ?_ (fun i m' H' h => ((hI _ _ _).1 h).2.1.get (by simp) hx) ?_ ?_
  · repeat tlg_ne
    exact ⟨rfl, (hI _ _ _).2 ⟨by lcg_off, Ext.refl.app, get_app0, get_appN, get_appN⟩⟩
  · intro i x m' H' hx' h00
    refine hE _ _ _ h00 _ fun l1 x1 y0 y1 y2 => ?_
    have hi : i < rows.length := by rw [← hl]; exact (List.getElem?_eq_some_iff.mp hx').1
    obtain ⟨row, hrow⟩ : ∃ row, rows[i]? = some row := ⟨_, List.getElem?_eq_getElem hi⟩
    obtain ⟨s, e1, e2⟩ := hr i row hrow
    rw [hx'] at e1
    cases e1
    have hsl : s < H.length := (List.getElem?_eq_some_iff.mp e2).1
    have hfl : (flV (rows.take i)).length = i := by rw [flV_len, List.length_take]; lia
    have htk : rows.take (i + 1) = rows.take i ++ [row] := by rw [List.take_add_one, hrow]; rfl
    have hpl : dget (plV (i + 1)) (10 + (i : Int)) = some (.int (i : Int)) := plV_get (by kl_some)
    have k2 := x1.get (by simp) e2
    have hpn := @plV_len i
    repeat tlg_ne
    refine set_dictI y2 (by kl_some) ?_
    rw [hfl, plV_set]
    repeat tlg_ne
    refine sp_put_all g' (by kl_some) hv (by kst_mem) (by kst_mem) (by kl_some) (by kst_mem) (by kl_some) ?_
    repeat tlg_ne
    have htl : (rows.take i).length = i := by rw [List.length_take]; lia
    exact (hI _ _ _).2 ⟨by lcg_off, by top_reprB, hs_skip (by kl_some) (hs_skip (by kl_some) y0), by rw [htk, flV_cat, htl]; exact hs_here (hs_skip (by kl_some) y1), hs_skip (by kl_some) (hs_here y2)⟩
  · intro m' H' h00
    refine hE _ _ _ h00 _ fun l1 x1 y0 y1 y2 => ?_
    rw [hl, List.take_length] at y1
    rw [hl] at y2
    repeat tlg_ne
    refine sp_gather g' (by kl_some) hv y0 y1 fun H2 x2 => ?_
    have w0 := x2.get (by simp) y0
    repeat tlg_ne
    exact hq _ _ _ _ _ _ _ H2 (x1.trans x2) (Nat.le_refl _) w0 (x2.get (by simp) y1) (x2.get (by simp) y2)
end
/-! ### S9 -/
/-! the law's own walk over the rows -/
noncomputable def nxt (r : Rw) (at_ : Nat) (a : Int) : Nat := match r with
  | .let_ _ _ => at_ + 1
  | .less k g => if a < 4 * (k : Int) then at_ + 1 else g
  | .known k g => if k = 0 then g else at_ + 1
  | .jump g => g
  | .goto g => g
  | .rem => at_ + 1
noncomputable def newA (r : Rw) (a : Int) : Int := match r with
  | .let_ false k => a + k
  | _ => a
noncomputable def newB (r : Rw) (a b : Int) : Int := match r with
  | .let_ true k => a + k
  | _ => b
inductive Wk (rows : List Rw) : Nat → Nat → List Nat → Int → Int → (List Nat × Int × Int × Bool) → Prop
  | out {at_ idle : Nat} {bg : List Nat} {a b : Int} : ¬ (at_ < rows.length ∧ idle ≤ rows.length) → Wk rows at_ idle bg a b (bg, a, b, decide (rows.length < idle))
  | full {at_ idle : Nat} {bg : List Nat} {a b : Int} {r : Rw} : rows[at_]? = some r → idle ≤ rows.length → (∀ g, r ≠ .jump g) → bg.length = 30 → Wk rows at_ idle bg a b (bg, a, b, false)
  | jump {at_ idle g : Nat} {bg : List Nat} {a b : Int} {o : List Nat × Int × Int × Bool} : rows[at_]? = some (.jump g) → idle ≤ rows.length → Wk rows g (idle + 1) bg a b o → Wk rows at_ idle bg a b o
  | row {at_ idle : Nat} {bg : List Nat} {a b : Int} {r : Rw} {o : List Nat × Int × Int × Bool} : rows[at_]? = some r → idle ≤ rows.length → (∀ g, r ≠ .jump g) → bg.length ≠ 30 → Wk rows (nxt r at_ a) 0 (bg ++ [at_]) (newA r a) (newB r a b) o → Wk rows at_ idle bg a b o
noncomputable abbrev nmD (a b : Int) : List (Str × V) := [(("A" : Str), .int a), (("B" : Str), .int b)]
theorem nm_A {a b : Int} : dget (nmD a b) ("A" : Str) = some (.int a) := by kernel_rfl
theorem nm_B {a b : Int} : dget (nmD a b) ("B" : Str) = some (.int b) := by kernel_rfl
theorem nm_setA {a b v : Int} : dset (nmD a b) ("A" : Str) (.int v) = nmD v b := by kernel_rfl
theorem nm_setB {a b v : Int} : dset (nmD a b) ("B" : Str) (.int v) = nmD a v := by kernel_rfl
theorem go_nGO {t : Nat} : (wOd (.go t) != ("GO" : Str)) = false := by kernel_rfl
inductive WI (rows : List Rw) (H : HA) (n : Nat) (i : Nat) (m' : LM) (H' : HA) : Prop
  | mk : m'.lookup ("rows" : Str) = some (.ref n) → m'.lookup ("rows_begun" : Str) = some (.ref H.length) → m'.lookup ("names" : Str) = some (.ref (H.length + 1)) → Ext [] H H' → ∀ (at_ idle : Nat) (bg : List Nat) (a b : Int) (k : Nat), m'.lookup ("at" : Str) = some (.int at_) → m'.lookup ("idle" : Str) = some (.int idle) →
    H'[H.length]? = some (.list (natV bg)) → H'[H.length + 1]? = some (.dictS (nmD a b)) → k + bg.length = 30 → idle ≤ rows.length + 1 → i = k * (rows.length + 2) + (rows.length + 1 - idle) → (∀ o, Wk rows at_ idle bg a b o → Wk rows 0 0 [] 0 0 o) → WI rows H n i m' H'
theorem WI.row {rows : List Rw} {H H' : HA} {n at_ idle k : Nat} {bg : List Nat} {a b : Int} {r : Rw} {m' : LM} (hr : rows[at_]? = some r) (hid : idle ≤ rows.length) (hj : ∀ g, r ≠ .jump g) (hf : bg.length ≠ 30) (hk : k + bg.length = 30) (hw : ∀ o, Wk rows at_ idle bg a b o → Wk rows 0 0 [] 0 0 o)
    (l1 : m'.lookup ("rows" : Str) = some (.ref n)) (l2 : m'.lookup ("rows_begun" : Str) = some (.ref H.length)) (l3 : m'.lookup ("names" : Str) = some (.ref (H.length + 1))) (x : Ext [] H H') (l4 : m'.lookup ("at" : Str) = some (.int (nxt r at_ a : Nat))) (l5 : m'.lookup ("idle" : Str) = some (.int 0))
    (y1 : H'[H.length]? = some (.list (natV bg ++ [.int at_]))) (y2 : H'[H.length + 1]? = some (.dictS (nmD (newA r a) (newB r a b)))) : ∃ j, j < k * (rows.length + 2) + (rows.length + 1 - idle) ∧ WI rows H n j m' H' := by
  obtain ⟨k', rfl⟩ : ∃ k', k = k' + 1 := ⟨k - 1, by lia⟩
  have e : (k' + 1) * (rows.length + 2) = k' * (rows.length + 2) + (rows.length + 2) := Nat.succ_mul ..
  refine ⟨k' * (rows.length + 2) + (rows.length + 1 - 0), by rw [e]; lia, l1, l2, l3, x, nxt r at_ a, 0, bg ++ [at_], newA r a, newB r a b, k', l4, l5, ?_, y2, by simp; lia, Nat.zero_le _, rfl, fun o h => hw o (.row hr hid hj hf h)⟩
  rw [y1]; simp [natV]
section
variable {c : Cx} {p : Params} {H : HA} {Q : V → HA → Prop} {X : Addr → HA → Prop}
theorem sp_is_ring (g : Gd c p) (hd : 1 ≤ c.d) (hn : c.hv = none) {o x : Nat} {os : List Od} (h1 : H[o]? = some (.list (os.map vOd))) (hz : os.length ≤ 1000) (hr : ∀ y, Chain os x y → ∃ u, os[y]? = some (.go u))
    (hq : ∀ H', Ext [] H H' → Q (.bool true) H') : CallW c (.glob 660) [.ref o, .int x] H Q X := by
  refine (fn_go g f_law_is_ring rfl (by kl_some) fun c' g' hv hd' => ?_).call
  rw [hn] at hv
  conv => arg 3; whnf
  have item : ∀ y u, os[y]? = some (.go u) → y < 1000 ∧ (os.map vOd)[((y : Nat) : Int).toNat]? = some (vOd (.go u)) := fun y u h => by
    have := (List.getElem?_eq_some_iff.mp h).1
    refine ⟨by lia, ?_⟩
    show (os.map vOd)[y]? = _
    rw [List.getElem?_map, h]; rfl
  obtain ⟨u, hu⟩ := hr x .refl
  obtain ⟨i1, i2⟩ := item x u hu
  repeat tlg_ne
  obtain ⟨I, hI⟩ : ∃ I : Nat → LM → HA → Prop, ∀ i m' H', I i m' H' ↔ (m'.lookup ("orders" : Str) = some (.ref o) ∧ m'.lookup ("place" : Str) = some (.int x) ∧ H' = H ∧ ∃ y : Nat, m'.lookup ("here" : Str) = some (.int y) ∧ Chain os x y) := ⟨_, fun _ _ _ => Iff.rfl⟩
  have hE : ∀ i m' H', I i m' H' → ∀ C : Prop, (m'.lookup ("orders" : Str) = some (.ref o) → m'.lookup ("place" : Str) = some (.int x) → H' = H → ∀ y : Nat, m'.lookup ("here" : Str) = some (.int y) → Chain os x y → C) → C := fun _ _ _ h C z => by obtain ⟨v1, v2, v3, y, v4, v5⟩ := (hI _ _ _).1 h; exact z v1 v2 v3 y v4 v5
  refine xs_for_range (N := (os.length : Int)) I hv ⟨n_range g', b_range, by kernel_rfl, by decide +kernel, by decide +kernel⟩ ?hit (by kl_some) (by kl_some) ?turn ?done
  case hit =>
    repeat tlg_ne
    exact ⟨by rw [List.length_map], (hI _ _ _).2 ⟨by lcg_off, by lcg_off, rfl, u, by lcg_off, .step hu .refl⟩⟩
  case turn =>
    intro i m' H' hi h00
    refine hE _ _ _ h00 _ fun l1 l2 e02 y l3 hc => ?_
    subst e02
    obtain ⟨w, hw⟩ := hr y hc
    obtain ⟨j1, j2⟩ := item y w hw
    have e1 := @go_nGO w
    by_cases hyx : y = x
    · subst hyx
      have e2 := @go_GO w
      repeat tlg_ne
      exact hq _ Ext.refl
    · have e2 := @go_GO w
      repeat tlg_ne
      exact (hI _ _ _).2 ⟨by lcg_off, by lcg_off, rfl, w, by lcg_off, hc.snoc hw⟩
  case done =>
    intro m' H' h00
    refine hE _ _ _ h00 _ fun l1 l2 e02 y l3 hc => ?_
    subst e02
    obtain ⟨w, hw⟩ := hr y hc
    obtain ⟨j1, j2⟩ := item y w hw
    have e2 := @go_GO w
    repeat tlg_ne
    exact hq _ Ext.refl
theorem sp_law_walk (g : Gd c p) (hd : 1 ≤ c.d) (hn : c.hv = none) {n : Nat} {rows : List Rw} (h1 : H[n]? = some (.list (rows.map vRow))) (hz : rows.length ≤ 8)
    (hq : ∀ (l d : Nat) (bg : List Nat) (a b : Int) (z : Bool) H', Ext [] H H' → Wk rows 0 0 [] 0 0 (bg, a, b, z) → H'[l]? = some (.list (natV bg)) → H'[d]? = some (.dictS (nmD a b)) → Q (.tup [.ref l, .ref d, .bool z]) H') : CallW c (.glob 646) [.ref n] H Q X := by
  refine (fn_go g f_law_walk rfl (by kl_some) fun c' g' hv hd' => ?_).call
  rw [hn] at hv
  conv => arg 3; whnf
  repeat tlg_ne
  refine ev_dict2 (by decide +kernel) ?_
  repeat tlg_ne
  refine ⟨hs_last, ?_⟩
  rw [set_lst]
  simp only [List.append_assoc, List.cons_append, List.nil_append, List.length_append, List.length_cons, List.length_nil, Nat.zero_add]
  repeat tlg_ne
  refine xs_while (WI rows H n) (30 * (rows.length + 2) + (rows.length + 1)) rfl ?_ ?_
  · exact ⟨by lcg_off, by lcg_off, by lcg_off, Ext.refl.app, 0, 0, [], 0, 0, 30, (by apply Eq.trans; (· lcg_off); (· rfl)), (by apply Eq.trans; (· lcg_off); (· rfl)), get_app0, get_appN, rfl, Nat.zero_le _, rfl, fun _ h => h⟩
  · rintro i m' H' ⟨l1, l2, l3, x1, at_, idle, bg, a, b, k, l4, l5, y1, y2, hk, hidl, rfl, hw⟩
    have k1 := x1.get (by simp) h1
    have hlr : (List.map vRow rows).length = rows.length := List.length_map ..
    have hlb : (natV bg).length = bg.length := List.length_map ..
    by_cases hat : at_ < rows.length
    · by_cases hid : idle ≤ rows.length
      · obtain ⟨r, hr⟩ : ∃ r, rows[at_]? = some r := ⟨_, List.getElem?_eq_getElem hat⟩
        have hx : (List.map vRow rows)[((at_ : Nat) : Int).toNat]? = some (vRow r) := by
          show (List.map vRow rows)[at_]? = _
          rw [List.getElem?_map, hr]; rfl
        have dA := @nm_A a b
        cases r
        case jump gl =>
          simp only [vRow, wRow, aRow] at hx
          repeat tlg_ne
          exact ⟨k * (rows.length + 2) + (rows.length + 1 - (idle + 1)), by lia, by lcg_off, by lcg_off, by lcg_off, x1, gl, idle + 1, bg, a, b, k, by lcg_off, lk_skip (by kernel_rfl) lk_set, y1, y2, hk, by lia, rfl, fun o h => hw o (.jump hr hid h)⟩
        case let_ s ad =>
          by_cases hfull : bg.length = 30
          · simp only [vRow, wRow, aRow] at hx
            repeat tlg_ne
            exact hq _ _ bg a b false _ x1 (hw _ (.full hr hid (by intro g z; cases z) hfull)) y1 y2
          · simp only [vRow, wRow, aRow] at hx
            repeat tlg_ne
            cases s
            · refine set_dictS (ks := ("A" : Str)) (hs_skip (by kl_some) y2) (by simp) ?_
              rw [nm_setA]
              repeat tlg_ne
              exact WI.row hr hid (by intro g z; cases z) hfull hk hw (by lcg_off) (by lcg_off) (by lcg_off) (by top_reprB) (by exact lk_set) (by lcg_off) (hs_skip (by kl_some) (hs_here y1)) (hs_here (hs_skip (by kl_some) y2))
            · refine set_dictS (ks := ("B" : Str)) (hs_skip (by kl_some) y2) (by simp) ?_
              rw [nm_setB]
              repeat tlg_ne
              exact WI.row hr hid (by intro g z; cases z) hfull hk hw (by lcg_off) (by lcg_off) (by lcg_off) (by top_reprB) (by exact lk_set) (by lcg_off) (hs_skip (by kl_some) (hs_here y1)) (hs_here (hs_skip (by kl_some) y2))
        case less ad gl =>
          by_cases hfull : bg.length = 30
          · simp only [vRow, wRow, aRow] at hx
            repeat tlg_ne
            exact hq _ _ bg a b false _ x1 (hw _ (.full hr hid (by intro g z; cases z) hfull)) y1 y2
          · simp only [vRow, wRow, aRow] at hx
            by_cases hlt : a < 4 * (ad : Int)
            · have hn' : nxt (.less ad gl) at_ a = at_ + 1 := if_pos hlt
              repeat tlg_ne
              exact WI.row hr hid (by intro g z; cases z) hfull hk hw (by lcg_off) (by lcg_off) (by lcg_off) (by top_reprB) (by rw [hn']; exact lk_set) (by lcg_off) (hs_here y1) (hs_skip (by kl_some) y2)
            · have hn' : nxt (.less ad gl) at_ a = gl := if_neg hlt
              repeat tlg_ne
              exact WI.row hr hid (by intro g z; cases z) hfull hk hw (by lcg_off) (by lcg_off) (by lcg_off) (by top_reprB) (by rw [hn']; lcg_off) (by lcg_off) (hs_here y1) (hs_skip (by kl_some) y2)
        case known ad gl =>
          by_cases hfull : bg.length = 30
          · simp only [vRow, wRow, aRow] at hx
            repeat tlg_ne
            exact hq _ _ bg a b false _ x1 (hw _ (.full hr hid (by intro g z; cases z) hfull)) y1 y2
          · simp only [vRow, wRow, aRow] at hx
            by_cases hz0 : ad = 0
            · have hn' : nxt (.known ad gl) at_ a = gl := if_pos hz0
              repeat tlg_ne
              exact WI.row hr hid (by intro g z; cases z) hfull hk hw (by lcg_off) (by lcg_off) (by lcg_off) (by top_reprB) (by rw [hn']; lcg_off) (by lcg_off) (hs_here y1) (hs_skip (by kl_some) y2)
            · have hn' : nxt (.known ad gl) at_ a = at_ + 1 := if_neg hz0
              repeat tlg_ne
              exact WI.row hr hid (by intro g z; cases z) hfull hk hw (by lcg_off) (by lcg_off) (by lcg_off) (by top_reprB) (by rw [hn']; exact lk_set) (by lcg_off) (hs_here y1) (hs_skip (by kl_some) y2)
        case goto gl =>
          by_cases hfull : bg.length = 30
          · simp only [vRow, wRow, aRow] at hx
            repeat tlg_ne
            exact hq _ _ bg a b false _ x1 (hw _ (.full hr hid (by intro g z; cases z) hfull)) y1 y2
          · simp only [vRow, wRow, aRow] at hx
            repeat tlg_ne
            have e10 : (10 + (gl : Int) - 10) = gl := by lia
            exact WI.row hr hid (by intro g z; cases z) hfull hk hw (by lcg_off) (by lcg_off) (by lcg_off) (by top_reprB) (by rw [e10]; exact lk_set) (by lcg_off) (hs_here y1) (hs_skip (by kl_some) y2)
        case rem =>
          by_cases hfull : bg.length = 30
          · simp only [vRow, wRow, aRow] at hx
            repeat tlg_ne
            exact hq _ _ bg a b false _ x1 (hw _ (.full hr hid (by intro g z; cases z) hfull)) y1 y2
          · simp only [vRow, wRow, aRow] at hx
            repeat tlg_ne
            exact WI.row hr hid (by intro g z; cases z) hfull hk hw (by lcg_off) (by lcg_off) (by lcg_off) (by top_reprB) (by exact lk_set) (by lcg_off) (hs_here y1) (hs_skip (by kl_some) y2)
      · repeat tlg_ne
        exact hq _ _ bg a b true _ x1 (hw _ (by
          have := Wk.out (rows := rows) (at_ := at_) (idle := idle) (bg := bg) (a := a) (b := b) (by kl_some)
          rw [decide_eq_true (by kl_some)] at this; exact this)) y1 y2
    · by_cases hid : idle ≤ rows.length
      · repeat tlg_ne
        exact hq _ _ bg a b false _ x1 (hw _ (by
          have := Wk.out (rows := rows) (at_ := at_) (idle := idle) (bg := bg) (a := a) (b := b) (by kl_some)
          rw [decide_eq_false (by kl_some)] at this; exact this)) y1 y2
      · repeat tlg_ne
        exact hq _ _ bg a b true _ x1 (hw _ (by
          have := Wk.out (rows := rows) (at_ := at_) (idle := idle) (bg := bg) (a := a) (b := b) (by kl_some)
          rw [decide_eq_true (by kl_some)] at this; exact this)) y1 y2
end
/-! ### SX1 -/
section
theorem be_slot_get : Slot "wrapper_descriptor" "__get__" "wrapper_descriptor.__get__" := .of (owner := "wrapper_descriptor") (n := "__get__") (by rw [typeLookup_type, builtinLookup_eq_fast]; kernel_rfl) (by decide +kernel) (by decide +kernel) (by decide +kernel)
  (by first | exact .inl (by decide +kernel) | exact .inr (by decide +kernel)) (by rw [isSubtype_type]; kernel_rfl)
theorem be_entry_get : entryFor table "wrapper_descriptor.__get__" = some Builtin.«wrapper_descriptor.__get__» := entryFor_of_tree (by kernel_rfl)
theorem be_getArgs (a b c : Value) : argsOk "wrapper_descriptor.__get__" ⟨[a, b, c], []⟩ := by unfold argsOk; kernel_rfl
theorem be_typeOf : typeOf (.builtin "Exception.__init__") = pure (.type "wrapper_descriptor") := by kernel_rfl
noncomputable abbrev mwObj (x : Addr) : Obj := { cls := .type "method-wrapper", data := .fields #[.builtin "Exception.__init__", .ref x] }
section
variable {prog : Program} {w : World} {A : Around} {E : Value → Shared → Prop} {h : Heap} {g : Array GenState} {d : Drawn} {t : Nat} {os : OsState}
variable {nm q : Str} {C N : Addr} {bs bm : List Value} {hdct : Bool} {sn : List Str} {sub : List Value} {ab : Bool} {col : Option Bool} {dd : Option Addr} {k0 k1 k2 k3 k5 : Option Value} {newId : String}
theorem be_checkB {M : Model} {e : Addr} {oe : Obj} {w : Value} {Q : Unit → Shared → Prop} (hC : h.get? C = some (excClassObj nm q C N bs bm hdct sn sub ab col dd k0 k1 k2 k3 k5 newId)) (he : h.get? e = some oe) (hcls : oe.cls = .ref C)
    (hq : Q () ⟨h, g, d, t, os⟩) : wpAny M A (checkBoundCall "Exception.__init__" ⟨[.ref e, w], []⟩) Q E ⟨h, g, d, t, os⟩ := by
  have F := PySem.F.excBase_Exception
  have hshort := F.noStar
  simp only [checkBoundCall, F.initKind, F.initRow]
  repeat (first | (with_reducible refine wpAny_loadPart_at he ?_; rw [hcls]) | with_reducible refine wpAny_loadPart_at hC ?_ | wp_step)
  exact hq
end
section
variable {prog : Program} {w : World} {A : Around} {E : Value → Shared → Prop} {h : Heap} {g : Array GenState} {d : Drawn} {t : Nat} {os : OsState}
theorem be_wget {x C : Addr} {ox : Obj} {Q : Fin → Shared → Prop} (hx : h.get? x = some ox) (hi : Looks (model prog w) h (isInstance (.ref x) (.type "Exception")) true)
    (hq : Q (.done (.ret (.ref h.objs.size))) ⟨h.push (mwObj x), g, d, t, os⟩) :
    wpAny (model prog w) A (Builtin.«wrapper_descriptor.__get__» ⟨[.builtin "Exception.__init__", .ref x, .ref C], []⟩) Q E ⟨h, g, d, t, os⟩ := by
  unfold Builtin.«wrapper_descriptor.__get__»
  refine wpAny_bind (wpAny_pure ?_)
  have isInst : ∀ T : String, T = "Exception" → Looks (model prog w) h (isInstance (.ref x) (.type T)) true := fun T e => by subst e; exact hi
  refine wpAny_bind (wpAny_bind ?_)
  refine wpAny_pure ?_
  refine wpAny_bind ((isInst _ (by kernel_rfl)).at ?_)
  rw [if_neg (by decide)]
  refine wpAny_pure ?_
  unfold newFields
  refine wpAny_bind (wpAny_newObj_type ?_ (by size_fits))
  exact wpAny_pure hq
theorem be_super_ga {so D x C : Addr} {ox : Obj} {l₀ l : List Value} {K : Frag} {tk : Tok} {Q : Fin → Shared → Prop}
    (hso : h.get? so = some { cls := .type "super", dict := none, data := .fields #[.ref D, .ref x, .ref C], slots := #[] }) (hno : Looks (model prog w) h (opaqueClassAbove (.ref C)) none)
    (hC : Looks (model prog w) h (mroOf (.ref C)) l₀) (hl : (l₀.dropWhile (· != .ref D)).drop 1 = l) (X : K.In h)
    (hf : alongIn K "__init__" l = some (some (.builtin "Exception.__init__"))) (hx : h.get? x = some ox) (hi : Looks (model prog w) h (isInstance (.ref x) (.type "Exception")) true) (hxC : x ≠ C)
    (hq : Q (.done (.ret (.ref h.objs.size))) ⟨h.push (mwObj x), g, d, t, os⟩) :
    wpAny (model prog w) A (Builtin.«super.__getattribute__» ⟨[.ref so, .str "__init__" tk], []⟩) Q E ⟨h, g, d, t, os⟩ := by
  have hlk := be_slot_get.lookup
  have hn : (("__init__" : Str) == ("__class__" : Str)) = false := by decide +kernel
  have hne : (Value.ref x == Value.ref C) = false := by simp [hxC]
  have hTf : (⟨h, g, d, t, os⟩ : Shared).TypeIs (.builtin "Exception.__init__") "wrapper_descriptor" := be_typeOf
  have hdt : ({ cls := .type "super", dict := none, data := .fields #[.ref D, .ref x, .ref C], slots := #[] } : Obj).data = .fields #[.ref D, .ref x, .ref C] := rfl
  have f0 : (#[.ref D, .ref x, .ref C] : Array Value)[0]? = some (.ref D) := rfl
  have f1 : (#[.ref D, .ref x, .ref C] : Array Value)[1]? = some (.ref x) := rfl
  have f2 : (#[.ref D, .ref x, .ref C] : Array Value)[2]? = some (.ref C) := rfl
  unfold Builtin.«super.__getattribute__»
  repeat (first
    | (with_reducible refine wpAny_field hso hdt f0 ?_) | (with_reducible refine wpAny_field hso hdt f1 ?_) | (with_reducible refine wpAny_field hso hdt f2 ?_)
    | (with_reducible refine ks_wpAny_notOpaque hno ?_)
    | (with_reducible refine Looks.at hC ?_; rw [hl])
    | (refine ks_forIn_along X (fun _ _ => rfl) rfl ?_ hf)
    | (with_reducible refine wpAny_typeOf hTf ?_)
    | (with_reducible refine wpAny_call_entry be_slot_get hTf be_entry_get (be_wget hx hi ?_) (be_getArgs _ _ _))
    | (with_reducible refine ⟨_, rfl, ?_⟩)
    | (simp only [hn, hne, Bool.or_false, Bool.false_eq_true, if_false])
    | wp_step
    | dsimp only)
  all_goals exact hq
theorem be_getMethod {so D x C : Addr} {ox : Obj} {l₀ l : List Value} {K : Frag} {pl : Sem Bool} {Q : Value × List Value → Shared → Prop}
    (hso : h.get? so = some { cls := .type "super", dict := none, data := .fields #[.ref D, .ref x, .ref C], slots := #[] }) (hno : Looks (model prog w) h (opaqueClassAbove (.ref C)) none)
    (hC : Looks (model prog w) h (mroOf (.ref C)) l₀) (hl : (l₀.dropWhile (· != .ref D)).drop 1 = l) (X : K.In h)
    (hf : alongIn K "__init__" l = some (some (.builtin "Exception.__init__"))) (hx : h.get? x = some ox) (hi : Looks (model prog w) h (isInstance (.ref x) (.type "Exception")) true) (hxC : x ≠ C)
    (hq : Q (.ref h.objs.size, []) ⟨h.push (mwObj x), g, d, t + 1, os⟩) :
    wpAny (model prog w) A (getMethod (.ref so) "__init__" pl) Q E ⟨h, g, d, t, os⟩ := by
  have hlk := F.ks_slot_super_ga.lookup
  have hcan := F.ks_canon_super_ga
  have hT : ∀ t', (⟨h, g, d, t', os⟩ : Shared).TypeIs (.ref so) "super" := fun _ => ⟨_, hso, rfl⟩
  unfold getMethod
  refine wpAny_bind (wpAny_specialOf (hT _) hlk ?_)
  show wpAny _ _ (if (Manifest.canonical "super.__getattribute__" != "object.__getattribute__") = true then _ else _) _ _ _
  rw [if_pos hcan]
  unfold getAttr getAttrBy
  refine wpAny_bind (wpAny_bind (wpAny_mkText (wpAny_holding (wpAny_bind (wpAny_typeOf (hT _) (wpAny_bind (wpAny_of_eq hlk ?_)))))))
  show wpAny _ _ (getAttrByItsOwn (.ref so) (.str ("__init__" : Str) t) (.type "super") (.builtin "super.__getattribute__") true false) _ _ _
  unfold getAttrByItsOwn hookBefore callGetattribute boundAndCalled
  refine wpAny_bind (wpAny_of_eq (show (if onTheHeap (.type "super") then typeLookup (.type "super") "__getattr__" else pure none) = pure none from rfl) ?_)
  refine wpAny_bind (wpAny_attempt (wpAny_holding ?_))
  show wpAny _ _ (bindSpecial (.builtin "super.__getattribute__") (.ref so) >>= _) _ _ _
  refine wpAny_bind (wpAny_of_eq (F.ks_slot_super_ga.bind _) ?_)
  refine wpAny_mono (Q := fun v s' => v = .ref h.objs.size ∧ s' = ⟨h.push (mwObj x), g, d, t + 1, os⟩) (E := fun _ _ => False)
    (wpAny_call_entry F.ks_slot_super_ga (hT _) F.ks_entry_super_ga (be_super_ga hso hno hC hl X hf hx hi hxC ⟨_, rfl, rfl, rfl⟩) (F.ks_gaArgs_super _ _)) (fun v s' hv => ?_) fun _ _ z => z.elim
  obtain ⟨rfl, rfl⟩ := hv
  exact wpAny_pure (wpAny_pure hq)
/-- the bound __init__ is called -/
theorem be_call_mw {nm q : Str} {C N : Addr} {bs bm : List Value} {hdct : Bool} {sn : List Str} {sub : List Value} {ab : Bool} {col : Option Bool} {cdd : Option Addr} {k0 k1 k2 k3 k5 : Option Value} {newId : String} {u x t0 : Addr} {v : Value} {dd : Option Addr} {sl : Array (Option Value)} {r1 r2 r3 r4 r5 : Value} {Q : Value → Shared → Prop} (hu : h.get? u = some (mwObj x))
    (hC : h.get? C = some (excClassObj nm q C N bs bm hdct sn sub ab col cdd k0 k1 k2 k3 k5 newId)) (hx : h.get? x = some ⟨.ref C, dd, .fields #[.ref t0, r1, r2, r3, r4, r5], sl⟩)
    (hq : ∀ h', (∀ b o, b ≠ x → h.get? b = some o → h'.get? b = some o) → (∃ n, h'.get? x = some ⟨.ref C, dd, .fields #[.ref n, r1, r2, r3, r4, r5], sl⟩) → Q .none ⟨h', g, d, t, os⟩) :
    wpAny (model prog w) A (call (.ref u) [v]) Q E ⟨h, g, d, t, os⟩ := by
  refine wpAny_call (codeAny_of_tree ?_)
  show wpAny _ A.in1 (callAny (.ref u) ⟨[v], []⟩) _ _ _
  simp only [callAny]
  refine wpAny_bind (wpAny_load hu ?_)
  simp only [show (Value.type "method-wrapper" == Value.type "method" || Value.type "method-wrapper" == Value.type "builtin_function_or_method" || Value.type "method-wrapper" == Value.type "method-wrapper") = true by decide, if_true]
  show wpAny _ _ (if (Value.type "method-wrapper" != Value.type "method") = true then _ else _) _ _ _
  rw [if_pos (by decide)]
  refine wpAny_bind (be_checkB hC hx rfl ?_)
  refine wpAny_pure ⟨plainId_quiet PySem.F.excBase_Exception.init.plain _, codeAny_builtin PySem.F.excBase_Exception.initEntry ?_⟩
  rw [Around.under_plainId PySem.F.excBase_Exception.init.plain _]
  unfold Builtin.«BaseException.__init__»
  show wpAny _ _ (newTuple [v] >>= _) _ _ _
  wp_walk
  refine hq _ (fun b o hb e => (Heap.get?_update_other _ _ (Ne.symm hb)).trans (Heap.get?_push_of_some _ e)) ⟨h.objs.size, ?_⟩
  rw [Heap.get?_update_self _ (Heap.get?_push_of_some _ hx) rfl]
  rfl
end
theorem ns_some_of {K : Frag} {h : Heap} {N : Addr} {mg : Str → Option Value} {n : Str} {v : Value} (X : K.In h) (G : h.Ns N mg) (e : nsIn K N n = some (some v)) : mg n = some v := by
  obtain ⟨o, es, ep, ho, hd, _, hf⟩ := G
  unfold nsIn at e
  split at e
  · rename_i c d es' n' sl q
    have := X _ _ q
    rw [ho] at this
    cases this
    cases hd
    split at e
    · rename_i en he
      cases e
      rw [← hf]
      unfold nsFind findBy
      rw [← Array.find?_toList, he]
      rfl
    · split at e <;> cases e
  · cases e
structure GP (B : Bx) : Prop where
  file : ((B.prog.main.file : Str) == ("/claim/cut.py" : Str)) = true
  top : (B.prog.main.scope.names.lookup ("super" : Str)).isSome = false
theorem be_C {p : Params} : (KK p).lookup 34 = some (excClassObj ("BasicError" : Str) ("BasicError" : Str) 34 33 [.type "Exception"] [.type "Exception", .type "BaseException", .type "object"] true [] [] false none none (some (.ref 15)) none (some (.str ("BasicError" : Str) 193)) (some (.str ("BasicError" : Str) 201)) (some (.bool true)) "Exception.__new__") := by kernel_rfl
theorem be_cell {p : Params} : (KK p).lookup 18 = some { cls := .type "cell", data := .cell (some (.ref 34)) } := by kernel_rfl
theorem be_fn {p : Params} : (KK p).lookup 31 = some ⟨.type "function", none, .func (fdOf (KK p) 31), #[]⟩ := by kernel_rfl
theorem be_code {p : Params} : codeIn (KK p) (fdOf (KK p) 31).code (fdOf (KK p) 31).qualname = true := by kernel_rfl
end
/-! ### SX3 -/
section
section
open PySem.Builtin PySem.Builtin.ObjectAttr
variable {prog : Program} {w : World} {A : Around} {E : Value → Shared → Prop} {h : Heap} {g : Array GenState} {d : Drawn} {t : Nat} {os : OsState}
variable {nm q : Str} {C N x : Addr} {bs bm : List Value} {sn : List Str} {sub : List Value} {ab : Bool} {col : Option Bool} {dd : Option Addr} {k0 k1 k2 k3 k5 : Option Value} {B newId sa owner : String} {mN : Str → Option Value} {name : Str} {v : Value}
/-- the first attribute of a thing without a dict: a new dict -/
theorem be_store {vs : Array Value} {Q : Unit → Shared → Prop} (SF : StoreFacts B bm sa owner) (hC : h.get? C = some (excClassObj nm q C N bs bm true sn sub ab col dd k0 k1 k2 k3 k5 newId)) (hn : h.Ns N mN) (hns : mN "__setattr__" = none) (hna : mN name = none)
    (hB : typeLookup (.type B) name = pure none) (hx : h.get? x = some ⟨.ref C, none, .fields vs, #[]⟩)
    (hq : ∀ h' tk', (∀ b o, b ≠ x → h.get? b = some o → h'.get? b = some o) → h'.get? x = some ⟨.ref C, some h.objs.size, .fields vs, #[]⟩ → h'.Ns1 h.objs.size (fun y => if y = name then some v else none) → h'.ExactDictFk h.objs.size → Q () ⟨h', g, d, tk', os⟩) :
    wpAny (model prog w) A (setAttr (.ref x) name v) Q E ⟨h, g, d, t, os⟩ := by
  have hpass := SF.passes (.ref x)
  have f3 := SF.slot.bind (.ref x)
  obtain ⟨o, ho, hc, hdn, hnc⟩ : ∃ o : Obj, (⟨.ref C, none, .fields vs, #[]⟩ : Obj) = o ∧ o.cls = .ref C ∧ o.dict = none ∧ o.data = .fields vs := ⟨_, rfl, rfl, rfl, rfl⟩
  rw [ho] at hx
  unfold setAttr callSpecial? specialOf
  repeat (any_goals (first | assumption | (with_reducible refine wpAny_loadPart_at hx ?_; rw [hc]) | (with_reducible refine wpAny_typeLookup_exc hC hn SF.mro SF.slot.lookup ?_; rw [hns]) | wp_step))
  refine codeAny_call_builtin SF.slot.plain SF.entry (wpAny_check_sa SF hC hx hc ?_)
  unfold Builtin.«object.__setattr__»
  repeat (first | rw [refuse_eq] | (rw [refuseLoop_ref, hpass]) | (with_reducible refine wpAny_loadPart_at hx ?_; rw [hc]) | with_reducible refine wpAny_mroOf_exc hC ?_ | (with_reducible refine wpAny_typeLookup_exc hC hn SF.mro hB ?_; rw [hna]) | wp_step)
  rw [hdn, if_neg (by simp [typeHasDict]), hnc]
  have hxs : x ≠ h.objs.size := Nat.ne_of_lt (Heap.lt_size hx)
  have up := fun (b : Addr) (ob : Obj) (e : h.get? b = some ob) => Heap.get?_push_of_some ({ cls := .type "dict", data := .dict #[] } : Obj) e
  refine wpAny_bind (wpAny_alloc' (wpAny_bind (wpAny_update' (up _ _ hx) (wpAny_pure ?_))))
  generalize hf : (fun o : Obj => ({ cls := o.cls, dict := some h.objs.size, data := o.data, slots := o.slots } : Obj)) = f
  have hgd : ((h.push { cls := .type "dict", data := .dict #[] }).update x f).get? h.objs.size = some { cls := .type "dict", data := .dict #[] } := (Heap.get?_update_ne _ _ _ _ hxs.symm).trans (Heap.get?_push_at rfl rfl)
  have hnd : ((h.push { cls := .type "dict", data := .dict #[] }).update x f).Ns1 h.objs.size (fun _ => none) := Heap.Ns1.of_empty ⟨_, #[], _, hgd, rfl, fun e he => absurd he (by simp), fun _ => rfl⟩
  show wpAny _ _ (storeInDict h.objs.size (.str name _) name v) _ _ _
  unfold storeInDict newKeyGuard
  refine wpAny_bind (wpAny_pure (wpAny_bind (wpAny_nsSet1EFk hnd fun h' hn' hs hk => ?_)))
  obtain ⟨oD, esD, epD, hoD, hdD, hcD⟩ := hn'.count (Within.cons name v Within.nil)
  refine wpAny_bind (wpAny_lookBehind hoD (by rw [hdD]; exact pastItsLine_dict (Nat.le_trans hcD (by rw [List.length_cons, List.length_nil, sizeLine_eq]; lia))) ?_)
  wp_walk
  refine hq h' _ (fun b ob hb e => (hs.2 b (Nat.ne_of_lt (Heap.lt_size e))).trans ((Heap.get?_update_ne _ _ _ _ hb).trans (up _ _ e))) ?_ hn' (let ⟨od, e, c, z⟩ := hk _ hgd; ⟨od, e, c, z⟩)
  refine (hs.2 x hxs).trans ?_
  rw [Heap.get?_update_self _ (up _ _ hx) (by rw [← hf, ← ho]; rfl), ← hf, ← ho]
end
end
/-! ### SX2 -/
section
theorem be_cobj {p : Params} : ∃ vs, (KK p).lookup 30 = some ⟨.type "code", none, .fields vs, #[]⟩ ∧ vs[2]? = some (.str ("/claim/cut.py" : Str) 208) := ⟨#[.str ("__init__" : Str) 206, .str ("BasicError.__init__" : Str) 207, .str ("/claim/cut.py" : Str) 208, .int 6 0, .int 3 0, .int 0 0, .int 0 0, .int 3 0, .ref 25, .bool true, .int 181 0, .ref 26, .none, .ref 27, .ref 28, .ref 29, .int 213 0, .int 6 0, .str ("/claim/cut.py" : Str) 214], by kernel_rfl, rfl⟩
theorem be_cls {p : Params} : ∃ cd, clsIn (KK p) 34 = some cd ∧ ((cd.mro.dropWhile (· != .ref 34)).drop 1) = [.type "Exception", .type "BaseException", .type "object"] := ⟨_, rfl, rfl⟩
theorem be_init {c : Cx} {p : Params} (g : Gd c p) (G : GP c.B) {A : Around} {h : Heap} {gg : Array GenState} {d : Drawn} {t : Nat} {os : OsState} {x t0 : Addr} {w : Str} {tk : Tok} {R : Result → Shared → Prop} (hroom : A.depth < recursionLimit)
    (base : ∀ a o, c.B.h0.get? a = some o → h.get? a = some o) (hx : h.get? x = some ⟨.ref 34, none, .fields #[.ref t0, .none, .none, .none, .bool false, .none], #[]⟩)
    (hq : ∀ h' t', (∀ b o, b ≠ x → h.get? b = some o → h'.get? b = some o) → (∃ o vs, h'.get? x = some o ∧ o.cls = .ref 34 ∧ o.data = .fields vs ∧ vs[1]? = some .none) → R (.ok (.ret .none)) ⟨h', gg, d, t', os⟩) :
    codeAny c.B.M A (.call (.ref 31) ⟨[.ref x, .str w tk], []⟩) R ⟨h, gg, d, t, os⟩ := by
  have X0 : (KK p).In c.B.h0 := g.K ▸ c.B.X
  have X : (KK p).In h := X0.keeps base
  have T := c.B.T
  generalize hL : h.objs.size = L
  refine ks_codeAny_call_defAt (s := ⟨h, gg, d, t, os⟩) (fd := fdOf (KK p) 31) (body := bodyOf (KK p) 31) (binds := [(("self" : Str), .ref x), (("code" : Str), .str w tk), (("told" : Str), .str ("" : Str) 205)]) hroom (X _ _ be_fn) rfl (T.nolimit.keeps base) (codeRec_of X be_code) (by kernel_rfl)
    (kp_binds X fun S => by kernel_rfl) ?hcell ?hloc (fun h₀ hns hk => ?_) (by kernel_rfl) (by kernel_rfl) (by kernel_rfl)
  case hcell =>
    have e : (fdOf (KK p) 31).scope.names.all (fun x => x.2 != .cell) = true := by kernel_rfl
    intro y hy
    simpa using List.all_eq_true.mp e y hy
  case hloc =>
    intro y hy
    simp only [List.mem_cons, List.not_mem_nil, or_false] at hy
    rcases hy with rfl | rfl | rfl <;> kernel_rfl
  replace hns : h₀.Ns L (fun y => [(("self" : Str), Value.ref x), (("code" : Str), .str w tk), (("told" : Str), .str ("" : Str) 205)].reverse.lookup y) := by rw [← hL]; exact hns
  show _root_.PySem.wpAt (model c.B.prog c.B.w) (A.deeper (callEnv (fdOf (KK p) 31) h.objs.size 31)) (.func (bodyOf (KK p) 31) (callEnv (fdOf (KK p) 31) h.objs.size 31)) (execs (bodyOf (KK p) 31) (callEnv (fdOf (KK p) 31) h.objs.size 31)) _ _ _
  rw [hL]
  generalize hb : bodyOf (KK p) 31 = body
  conv at hb => lhs; whnf
  subst hb
  have X1 : (KK p).In h₀ := X.keeps hk
  have base1 : ∀ a o, c.B.h0.get? a = some o → h₀.get? a = some o := fun a o e => hk _ _ (base a o e)
  have hx1 := hk _ _ hx
  have hxne : x ≠ 34 := fun e => by
    subst e
    rw [X _ _ be_C] at hx; cases hx
  obtain ⟨vs, hc1, hc2⟩ := be_cobj (p := p)
  have hD := X1 _ _ (be_C (p := p))
  refine ks_wpAt_execs_cons (ks_wpAt_Expr_any ?_ (by kernel_rfl) (by rfl))
  refine ks_wpAt_MethodCall ?_
  refine ks_wpAt_super_base (f := 31) (cc := 30) (fd := fdOf (KK p) 31) (by kernel_rfl) (by kernel_rfl) (by decide +kernel) rfl (X1 _ _ be_fn) rfl (ar := ⟨("self" : Str), none, ⟨6, 17, 6, 21⟩⟩) (by kernel_rfl) (by kernel_rfl) (X1 _ _ hc1) rfl hc2 G.file G.top ?_
  refine ks_loadName_global (by kernel_rfl) (by kernel_rfl) (Calls.loadGlobal_builtin (by exact T.g.keeps base1) (mg_none_of X0 T.g (by kernel_rfl)) (by exact T.b.keeps base1) ((T.builtins _ (by decide +kernel)).trans (by kernel_rfl)) ⟨rfl, ?_⟩)
  refine wpAny_loadName_free (by kernel_rfl) (by kernel_rfl) (by kernel_rfl) ⟨_, X1 _ _ be_cell, rfl⟩ ?_
  refine wpAny_loadName_local (by kernel_rfl) (by kernel_rfl) hns rfl ?_
  refine ks_wpAny_isType_cls hD rfl ⟨rfl, ?_⟩
  refine ks_wpAny_call_super hD rfl hx1 rfl (fun c e => by cases e) (looks_mroIn X1 (by kernel_rfl)) (fun h3 e3 k3 => ?_)
  have X3 := X1.keeps k3
  have hx3 := k3 _ _ hx1
  obtain ⟨cd, hcd1, hcd2⟩ := be_cls (p := p)
  have hty : Looks (model c.B.prog c.B.w) h3 (typeOf (.ref x)) (.ref 34) := (Looks.ld hx3).andThen .now
  have hinst : Looks (model c.B.prog c.B.w) h3 (isInstance (.ref x) (.type "Exception")) true := hty.andThen (looks_subIn X3 (by kernel_rfl))
  refine be_getMethod e3 (looks_opaque X3 (by kernel_rfl)) (l₀ := cd.mro) (fun A Q E s k q => wpAny_bind ((looks_clsIn X3 hcd1) A _ E s k (wpAny_pure q))) hcd2 X3 (by kernel_rfl) hx3 hinst hxne ?_
  have up4 := fun (b : Addr) (ob : Obj) (e : h3.get? b = some ob) => Heap.get?_push_of_some (mwObj x) e
  have hu4 : (h3.push (mwObj x)).get? h3.objs.size = some (mwObj x) := Heap.get?_push_at rfl rfl
  generalize h3.push (mwObj x) = h4 at up4 hu4 ⊢
  generalize h3.objs.size = u at hu4 ⊢
  have X4 := X3.keeps up4
  have hx4 := up4 _ _ hx3
  have up := fun (b : Addr) (ob : Obj) (e : h₀.get? b = some ob) => up4 b ob (k3 b ob e)
  have hns4 : h4.Ns L (fun y => [(("self" : Str), Value.ref x), (("code" : Str), .str w tk), (("told" : Str), .str ("" : Str) 205)].reverse.lookup y) := let ⟨o, es, ep, e, r⟩ := hns; ⟨o, es, ep, up _ _ e, r⟩
  refine with_call (c := c) (first := []) (by unfold plainArgs; intro _ _; with_unfolding_all rfl) ?_
  refine Calls.spliced_cons (wpAny_Name (wpAny_loadName_local (by kernel_rfl) (by kernel_rfl) hns4 rfl ?_) (by decide +kernel))
  refine Calls.spliced_nil ⟨fun M => ⟨.machine, .inr (.inl rfl), fun A Q E s k q => by
    unfold keeperOf
    refine wpAny_bind (wpAny_load (k _ _ hu4) ?_)
    exact wpAny_pure q⟩, ?_⟩
  refine be_call_mw hu4 (X4 _ _ be_C) hx4 ?_
  rintro h5 k5 ⟨n5, hx5⟩
  show _root_.PySem.wpAt _ _ _ _ _ _ _
  have hLx : L ≠ x := fun e => by
    rw [← hL] at e
    exact absurd (Heap.lt_size hx) (by rw [e]; exact Nat.lt_irrefl _)
  have k5' : ∀ b o, b ≠ x → h₀.get? b = some o → h5.get? b = some o := fun b o hb e => k5 b o hb (up _ _ e)
  have keepNs : ∀ h' : Heap, (∀ b o, b ≠ x → h₀.get? b = some o → h'.get? b = some o) → h'.Ns L (fun y => [(("self" : Str), Value.ref x), (("code" : Str), .str w tk), (("told" : Str), .str ("" : Str) 205)].reverse.lookup y) := fun h' k => let ⟨o, es, ep, e, r⟩ := hns; ⟨o, es, ep, k _ _ hLx e, r⟩
  have hne : ∀ {b : Addr} {o : Obj}, (KK p).lookup b = some o → (∀ vs, o.data ≠ .fields vs) → b ≠ x := fun e d z => by
    subst z
    rw [X _ _ e] at hx; cases hx
    exact d _ rfl
  have cls5 := fun (h' : Heap) (k : ∀ b o, b ≠ x → h₀.get? b = some o → h'.get? b = some o) => k _ _ (Ne.symm hxne) hD
  obtain ⟨o33, h33, h33d⟩ : ∃ o, (KK p).lookup 33 = some o ∧ ∀ vs, o.data ≠ .fields vs := by
    have e : nsOkIn (KK p) 33 = true := by kernel_rfl
    unfold nsOkIn at e
    split at e
    · rename_i q; exact ⟨_, q, fun vs z => by cases z⟩
    · cases e
  have n33 := hne h33 h33d
  have hN1 : ∀ h' : Heap, (∀ b o, b ≠ x → h₀.get? b = some o → h'.get? b = some o) → h'.Ns 33 (h₀.nsMap 33) := fun h' k =>
    let ⟨o, es, ep, e, r⟩ := Heap.Ns.of_isNs (isNs_of_in X1 (N := 33) (by kernel_rfl)); ⟨o, es, ep, k _ _ n33 e, r⟩
  have m1 : h₀.nsMap 33 "__setattr__" = none := nsMap_none_of_in X1 (by kernel_rfl) (by kernel_rfl)
  have m2 : h₀.nsMap 33 "code" = none := nsMap_none_of_in X1 (by kernel_rfl) (by kernel_rfl)
  have m3 : h₀.nsMap 33 "told" = none := nsMap_none_of_in X1 (by kernel_rfl) (by kernel_rfl)
  refine ks_wpAt_execs_cons (wpAt_of_wpAny (plainObj_wpAny_Assign_Attribute ?_ (by rfl)))
  refine wpAny_Name (wpAny_loadName_local (by kernel_rfl) (by kernel_rfl) (keepNs _ k5') rfl ?_) (by decide +kernel)
  refine wpAny_Name (wpAny_loadName_local (by kernel_rfl) (by kernel_rfl) (keepNs _ k5') rfl ?_) (by decide +kernel)
  refine be_store F.store_Exception (cls5 _ k5') (hN1 _ k5') m1 m2 (by rw [typeLookup_type, builtinLookup_eq_fast]; kernel_rfl) hx5 fun h6 t6 k6 hx6 hn6 hd6 => ?_
  generalize hdx : h5.objs.size = dx at hx6 hn6 hd6
  have ltx : ∀ {b : Addr} {o : Obj}, h5.get? b = some o → b ≠ dx := fun e => by rw [← hdx]; exact Nat.ne_of_lt (Heap.lt_size e)
  have k6' : ∀ b o, b ≠ x → h₀.get? b = some o → h6.get? b = some o := fun b o hb e => k6 b o hb (k5' b o hb e)
  show _root_.PySem.wpAt _ _ _ _ _ _ _
  refine ks_wpAt_execs_cons (wpAt_of_wpAny (plainObj_wpAny_Assign_Attribute ?_ (by rfl)))
  refine wpAny_Name (wpAny_loadName_local (by kernel_rfl) (by kernel_rfl) (keepNs _ k6') rfl ?_) (by decide +kernel)
  refine wpAny_Name (wpAny_loadName_local (by kernel_rfl) (by kernel_rfl) (keepNs _ k6') rfl ?_) (by decide +kernel)
  refine store_attrFk F.store_Exception (cls5 _ k6') (hN1 _ k6') m1 m3 (by rw [typeLookup_type, builtinLookup_eq_fast]; kernel_rfl) hxne ⟨_, hx6, rfl, (fun c e => by cases e), .inr ⟨dx, rfl, (ltx hx5).symm, hn6, hd6⟩⟩
    (fun h7 t7 _ k7 same7 => ?_) (Within.cons _ _ Within.nil) (by size_fits)
  obtain ⟨o7, e7, c7, d7, _⟩ := same7 _ hx6
  show _root_.PySem.wpAt _ _ _ _ _ _ _
  refine wpAt_of_wpAny (wpAny_execs_nil ?_)
  refine hq h7 _ (fun b o hb e => k7 b o hb (fun o₀ dx' h0 hd0 => ?_) (k6' b o hb (hk _ _ e))) ⟨o7, _, e7, c7, d7, rfl⟩
  rw [hx6] at h0; cases h0
  cases hd0
  exact ltx (k5' b o hb (hk _ _ e))
theorem sp_BasicError {c : Cx} {p : Params} {H : HA} {Q : V → HA → Prop} {X : Addr → HA → Prop} (g : Gd c p) (G : GP c.B) (hd : 1 ≤ c.d) {w : Str} (hq : ∀ a, Q (.exc a) H) : CallW c (.glob 34) [.str w] H Q X := .glob fun A ρ s vs ak st va => by
  replace va := va.one; obtain ⟨pv, rfl, va⟩ := va
  cases va with
  | str _ tk =>
  obtain ⟨h, gg, d, t, os⟩ := s
  have XX : (KK p).In h := g.K ▸ st.K
  refine wpAny_call_exc_init F.excBase_Exception (XX _ _ be_C) (Heap.Ns.of_isNs (isNs_of_in XX (N := 33) (by kernel_rfl))) (ns_some_of XX (.of_isNs (isNs_of_in XX (N := 33) (by kernel_rfl))) (by kernel_rfl)) (XX _ _ be_fn) rfl fun h' e hm => ?_
  obtain ⟨t0, he, _⟩ := hm.there
  refine wpAny_call (be_init g G ?_ (fun a o z => hm.keeps _ _ (st.base a o z)) he fun h'' t' keep ⟨o, vs, e1, e2, e3, e4⟩ => ⟨rfl, ?_⟩)
  · have w1 : (Code.builtin "type.__call__" ⟨.ref 34 :: [.str w tk], []⟩).weight ≤ 2 := by
      exact Nat.le_of_ble_eq_true (by with_unfolding_all rfl)
    have := ak.dep
    show A.depth + _ < recursionLimit
    unfold recursionLimit
    lia
  · have kp : ∀ b o, h.get? b = some o → h''.get? b = some o := fun b o z => keep b o (fun q => by subst q; rw [hm.new] at z; cases z) (hm.keeps _ _ z)
    exact ⟨ρ, H, .exc e, Step.ext kp rfl rfl, St.ext (s := ⟨h, gg, d, t, os⟩) (s' := ⟨h'', gg, d, t', os⟩) st kp rfl rfl, .exc ⟨o, vs, e1, by rw [g.CB]; exact e2, e3, dead_of (fun a o z => ⟨o, st.base a o z⟩) hm.new, .inl e4⟩, hq e⟩
end
/-! ### S10 -/
section
variable {prog : Program} {w : World} {A : Around} {E : Value → Shared → Prop} {s : Shared} {env : Env}
/-- a slice of a list, whatever bears the list -/
theorem slice_list {value : Expr} {lower upper : Option Expr} {p pos : Pos} {Q : Value → Shared → Prop}
    (h : wpAny (model prog w) A (eval value env) (fun o s₁ => wpAny (model prog w) A (evalPart lower env) (fun vl s₂ => wpAny (model prog w) A (evalPart upper env) (fun vu s₃ =>
      ∃ l items lo hi, o = .ref l ∧ s₃.heap.IsList l items ∧ items.size ≤ sizeLine ∧ IsPart vl lo ∧ IsPart vu hi ∧
        Q (.ref (s₃.heap.objs.size + 1)) { s₃ with heap := (s₃.heap.push { cls := .type "slice", data := .fields #[vl, vu, .none] }).push { cls := .type "list", data := .seq (slicePick items lo hi none) } }) E s₂) E s₁) E s) :
    wpAny (model prog w) A (eval (.Subscript value (.Slice lower upper none p) pos) env) Q E s := by
  rw [eval_Subscript]
  refine wpAny_bind (wpAny_mono h (fun o s₁ h₁ => wpAny_bind (wpAny_holding (wpAny_Slice (wpAny_mono h₁ (fun vl s₂ h₂ => wpAny_mono h₂ (fun vu s₃ h₃ => ?_) fun _ _ e => e) fun _ _ e => e)))) fun _ _ e => e)
  obtain ⟨l, items, lo, hi, rfl, hl, hsz, pl, pu, hQ⟩ := h₃
  rw [evalPart_none]
  refine wpAny_pure (wpAny_bind (wpAny_standAt (wpAny_bind ?_)))
  have hT := (hl.push { cls := .type "slice", data := .fields #[vl, vu, .none] }).typeIs (s := ⟨_, s₃.gens, s₃.drawn, s₃.toks, s₃.os⟩)
  rw [getitemInPython_of_ne (by intro z; cases z)]
  refine wpAny_bind (wpAny_specialOf hT list_getitem_lookup ?_)
  refine wpAny_pure (wpAny_bind (wpAny_operating (wpAny_getItem_list_slice (hl.push _) (Heap.IsSliceOf.new ..) pl pu .none (by simp) ?_ hsz)))
  rw [Heap.size_push]
  exact wpAny_bind (wpAny_letTemporaryGo (wpAny_pure hQ))
end
section
variable {c : Cx} {fa : FrA} {m : LM} {H : HA} {Q : V → HA → Prop} {X : Addr → LM → HA → Prop}
theorem ev_fromG {l i : Expr} {p pos : Pos} {n : Nat} (h : EvW c fa l m H (fun v H1 => v = .ref n ∧ EvW c fa i m H1 (fun kv H2 => ∃ (k : Int) (xs : List V), kv = .int k ∧ 0 ≤ k ∧ H2[n]? = some (.list xs) ∧ xs.length ≤ 100000 ∧ Q (.ref H2.length) (H2 ++ [.list (xs.drop k.toNat)])) X) X) : EvW c fa (.Subscript l (.Slice (some i) none none p) pos) m H Q X := fun A env L ρ s k => by
  refine slice_list (wpAny_mono (h A env L ρ s k) ?_ fun _ _ r => r)
  rintro pv s₁ ⟨ρ₁, H₁, v, x1, st1, l1, r, hv, h1⟩
  subst hv
  obtain ⟨q, rfl, e⟩ := r.ref_inv
  have k1 := k.next x1 st1 l1
  refine wpAny_evalPart_some (wpAny_mono (h1 A env L ρ₁ s₁ k1) ?_ fun _ _ r => r.after x1)
  rintro pk s₂ ⟨ρ₂, H₂, kv, x2, st2, l2, rk, kk, xs, hk, h0, hn, hz, hq⟩
  subst hk
  cases rk
  refine wpAny_evalPart_none ?_
  have e2 := x2.grow e
  obtain ⟨hqq, vs, kv, g1, hr⟩ := st2.ref hn e2
  have hl := hr.length
  refine ⟨q.1, vs.toArray, some kk, none, rfl, g1.isList, by simp only [List.size_toArray]; rw [sizeLine_eq]; lia, .int _ _, .none, ?_⟩
  rw [pick_from vs h0]
  generalize hs : ({ cls := .type "slice", data := .fields _ } : Obj) = so
  have kp : ∀ b o, s₂.heap.get? b = some o → ((s₂.heap.push so).push { cls := .type "list", data := .seq (vs.drop kk.toNat).toArray }).get? b = some o := fun b o e => Heap.get?_push_of_some _ (Heap.get?_push_of_some _ e)
  obtain ⟨ρ', H', v, x3, st3, r3, q3⟩ := new_list (c := c) (Q := Q) (q := s₂.heap.objs.size + 1) (s' := { s₂ with heap := (s₂.heap.push so).push { cls := .type "list", data := .seq (vs.drop kk.toNat).toArray } }) (vs := vs.drop kk.toNat) (xs := xs.drop kk.toNat) st2 kp rfl rfl (Nat.le_succ _) (by
    have := Heap.get?_push_size (s₂.heap.push so) (o := { cls := .type "list", data := .seq (vs.drop kk.toNat).toArray }) rfl
    simpa using this) (hr.drop _) hq
  exact ⟨ρ', H', v, (x1.trans x2).trans (x3.atL l2.off), st3, l2.mono st2 x3, r3, q3⟩
theorem ev_uptoG {l i : Expr} {p pos : Pos} {n : Nat} (h : EvW c fa l m H (fun v H1 => v = .ref n ∧ EvW c fa i m H1 (fun kv H2 => ∃ (k : Int) (xs : List V), kv = .int k ∧ 0 ≤ k ∧ H2[n]? = some (.list xs) ∧ xs.length ≤ 100000 ∧ Q (.ref H2.length) (H2 ++ [.list (xs.take k.toNat)])) X) X) : EvW c fa (.Subscript l (.Slice none (some i) none p) pos) m H Q X := fun A env L ρ s k => by
  refine slice_list (wpAny_mono (h A env L ρ s k) ?_ fun _ _ r => r)
  rintro pv s₁ ⟨ρ₁, H₁, v, x1, st1, l1, r, hv, h1⟩
  subst hv
  obtain ⟨q, rfl, e⟩ := r.ref_inv
  have k1 := k.next x1 st1 l1
  refine wpAny_evalPart_none (wpAny_evalPart_some (wpAny_mono (h1 A env L ρ₁ s₁ k1) ?_ fun _ _ r => r.after x1))
  rintro pk s₂ ⟨ρ₂, H₂, kv, x2, st2, l2, rk, kk, xs, hk, h0, hn, hz, hq⟩
  subst hk
  cases rk
  have e2 := x2.grow e
  obtain ⟨hqq, vs, kv, g1, hr⟩ := st2.ref hn e2
  have hl := hr.length
  refine ⟨q.1, vs.toArray, none, some kk, rfl, g1.isList, by simp only [List.size_toArray]; rw [sizeLine_eq]; lia, .none, .int _ _, ?_⟩
  rw [pick_upto vs h0]
  generalize hs : ({ cls := .type "slice", data := .fields _ } : Obj) = so
  have kp : ∀ b o, s₂.heap.get? b = some o → ((s₂.heap.push so).push { cls := .type "list", data := .seq (vs.take kk.toNat).toArray }).get? b = some o := fun b o e => Heap.get?_push_of_some _ (Heap.get?_push_of_some _ e)
  obtain ⟨ρ', H', v, x3, st3, r3, q3⟩ := new_list (c := c) (Q := Q) (q := s₂.heap.objs.size + 1) (s' := { s₂ with heap := (s₂.heap.push so).push { cls := .type "list", data := .seq (vs.take kk.toNat).toArray } }) (vs := vs.take kk.toNat) (xs := xs.take kk.toNat) st2 kp rfl rfl (Nat.le_succ _) (by
    have := Heap.get?_push_size (s₂.heap.push so) (o := { cls := .type "list", data := .seq (vs.take kk.toNat).toArray }) rfl
    simpa using this) (hr.take _) hq
  exact ⟨ρ', H', v, (x1.trans x2).trans (x3.atL l2.off), st3, l2.mono st2 x3, r3, q3⟩

end
section
variable {c : Cx} {p : Params} {H : HA} {Q : V → HA → Prop} {X : Addr → HA → Prop}
theorem worth_item {c : Cx} {x y : Int} : ∀ v ∈ [V.int x, V.int y], ∀ h ρ pv, VR c.B h ρ v pv → VR c.B h [] v pv := by
  intro v hv h ρ pv r
  simp only [List.mem_cons, List.not_mem_nil, or_false] at hv
  rcases hv with rfl | rfl <;> (cases r; exact .int _ _)
theorem sp_place0 (g : Gd c p) (hd : 1 ≤ c.d) {n cd o s : Nat} {v b d h w pl r : V} {st : List Nat} (h0 : H[n]? = some (.inst 621 (runF (.ref cd) v b d h w pl r))) (h1 : H[cd]? = some (.inst 343 (codeF (.ref o) (.ref s)))) (h2 : H[s]? = some (.list (natV (0 :: st)))) (hz : st.length ≤ 100)
    (hq : Q (.int 0) H) : CallW c (.glob 590) [.ref n, .int 0] H Q X := by
  refine (fn_go g f_RowRun_place_of rfl (by kl_some) fun c' g' hv hd' => ?_).call
  conv => arg 3; whnf
  have hl : (natV (0 :: st)).length = st.length + 1 := by simp [natV]
  repeat tlg_ne
  exact hq
theorem sp_value_of_name (g : Gd c p) (hd : 1 ≤ c.d) {n vd ak : Nat} {a b : Int} {as : List V} {v1 v2 : V} (h0 : H[n]? = some (.inst 544 (hooksF (.ref vd) v1 v2 (.ref ak)))) (h1 : H[vd]? = some (.dictS (nmD a b))) (h2 : H[ak]? = some (.list as)) (hz : as.length ≤ 1000)
    (hq : Q (.int a) (H.set ak (.list (as ++ [.str ("A" : Str)])))) : CallW c (.glob 513) [.ref n, .str ("A" : Str)] H Q X := by
  refine (fn_go g f_PlainHooks_value_of_name rfl (by kl_some) fun c' g' hv hd' => ?_).call
  conv => arg 3; whnf
  have dA := @nm_A a b
  repeat tlg_ne
  refine op_ninS (by kst_mem) ?_
  simp only [dA, Option.isSome_some, Bool.not_true]
  repeat tlg_ne
  exact hq
theorem sp_taken2 (g : Gd c p) (hd : 1 ≤ c.d) {n pi : Nat} {cd v b d h w r : V} {ps : List Int} {x y : Int} (h0 : H[n]? = some (.inst 621 (runF cd v b d h w (.ref pi) r))) (h1 : H[pi]? = some (.list ((ps ++ [x, y]).map .int))) (hz : ps.length ≤ 1000)
    (hq : ∀ f pj H', Ext [n] H H' → H.length ≤ f → H.length ≤ pj → H'[f]? = some (.list [.int x, .int y]) → H'[n]? = some (.inst 621 (runF cd v b d h w (.ref pj) r)) → H'[pj]? = some (.list (ps.map .int)) → Q (.ref f) H') : CallW c (.glob 597) [.ref n, .int 2] H Q X := by
  refine (fn_go g f_RowRun_taken rfl (by kl_some) fun c' g' hv hd' => ?_).call
  conv => arg 3; whnf
  have hl : (List.map V.int (ps ++ [x, y])).length = ps.length + 2 := by simp
  iterate 16 tlg_ne
  refine ev_fromG (n := pi) ?_
  repeat tlg_ne
  refine ⟨rfl, ?_⟩
  repeat tlg_ne
  refine ⟨_, _, rfl, by lia, h1, by lia, ?_⟩
  have e1 : (((List.map V.int (ps ++ [x, y])).length : Int) - 2).toNat = ps.length := by lia
  have e2 : List.drop ps.length (List.map V.int (ps ++ [x, y])) = [.int x, .int y] := by rw [List.map_append, List.drop_append_of_le_length (by simp), List.drop_of_length_le (by simp)]; rfl
  have e3 : List.take ps.length (List.map V.int (ps ++ [x, y])) = ps.map .int := by rw [List.map_append, List.take_append_of_le_length (by simp), List.take_of_length_le (by simp)]
  rw [e1, e2]
  iterate 2 tlg_ne
  refine ev_uptoG (n := pi) ?_
  repeat tlg_ne
  refine ⟨rfl, ?_⟩
  repeat tlg_ne
  refine ⟨_, _, rfl, by lia, hs_app h1, by lia, ?_⟩
  rw [e1, e3]
  repeat tlg_ne
  have hnl : n < H.length := (List.getElem?_eq_some_iff.mp h0).1
  exact hq _ (H ++ [Ob.list [V.int x, V.int y]]).length _ (by top_reprB) (Nat.le_refl _) (by simp) (hs_skip (by kl_some) (hs_app hs_last)) (hs_here (hs_app (hs_app h0))) (hs_skip (by rw [List.length_append]; lia) hs_last)
theorem lt_val {x y : Int} : (if decide (b2i (decide (y < x)) - b2i (decide (x < y)) < 0) = true then (-1 : Int) else 0) = if x < y then -1 else 0 := by
  by_cases h1 : x < y
  · have h2 : ¬ y < x := by lia
    rw [decide_eq_true h1, decide_eq_false h2, if_pos h1]; rfl
  · rw [decide_eq_false h1, if_neg h1]
    by_cases h2 : y < x
    · rw [decide_eq_true h2]; rfl
    · rw [decide_eq_false h2]; rfl
theorem vr_nil {B : Bx} {h : Heap} {ρ : Rho} {v : V} {pv : Value} (r : VR B h [] v pv) : VR B h ρ v pv := by
  induction r with
  | none => exact .none
  | bool b => exact .bool b
  | int i t => exact .int i t
  | str s t => exact .str s t
  | tup a b _ ih => exact .tup a b ih
  | ref e => simp at e
  | glob a => exact .glob a
  | ty n => exact .ty n
  | bi n => exact .bi n
  | exc e => exact .exc e
theorem sp_two_add (g : Gd c p) (hd : 5 ≤ c.d) (hn : c.hv = none) {x y : Int} (hi : -1000 ≤ x + y) (hi' : x + y ≤ 1000) (hq : ∀ H', Ext [] H H' → Q (.int (x + y)) H') : CallW c (.glob 311) [.str ("+" : Str), .int x, .int y, .int 16, .int 9] H Q X := by
  refine (fn_go g f_worth_of_two rfl (by kl_some) fun c' g' hv hd' => ?_).call
  rw [hn] at hv
  conv => arg 3; whnf
  iterate 1 tlg_ne
  refine xs_asgComp (frees := []) (N := 2) (G := fun _ => True) (item := fun i => [V.int x, V.int y].getD i .none) hv ⟨fun env h => closure_of (by kernel_rfl) env h, (by intro z hz; cases hz), by kernel_rfl, ?_, ?_⟩ (first_val ?_) (by kernel_rfl) ?_
  · intro x hx; revert x; decide +kernel
  · intro x hx; revert x; decide +kernel
  · repeat tlg_ne
    refine ⟨iter_tup worth_item fun v h ρ pv r => vr_nil r, fun i m2 H2 => Ext [] H H2 ∧ H2[H.length]? = some (.list (List.replicate i (.bool false))), ⟨Ext.refl.app, hs_last⟩, fun _ _ _ _ => trivial, ?_, ?_⟩
    · rintro i m2 H2 hi ⟨x2, y2⟩
      obtain ⟨z, hz⟩ : ∃ z : Int, [V.int x, V.int y].getD i .none = .int z := by
        match i, hi with
        | 0, _ => exact ⟨x, rfl⟩
        | 1, _ => exact ⟨y, rfl⟩
      show TgW _ _ _ ([V.int x, V.int y].getD i .none) _ _ _
      rw [hz]
      repeat tlg_ne
      refine ⟨_, y2, by rw [List.length_replicate]; lia, x2.setN (Nat.le_refl _), ?_⟩
      rw [hs_here y2, List.replicate_succ']
    · rintro m2 H2 ⟨x2, y2⟩
      have w : H2[H.length]? = some (.list [.bool false, .bool false]) := y2
      repeat tlg_ne
      exact hq _ x2
  · refine scope_eq ?_
    intros
    rfl
theorem sp_two_lt (g : Gd c p) (hd : 5 ≤ c.d) (hn : c.hv = none) {x y : Int} (hq : ∀ H', Ext [] H H' → Q (.int (if x < y then -1 else 0)) H') : CallW c (.glob 311) [.str ("<" : Str), .int x, .int y, .int 16, .int 9] H Q X := by
  refine (fn_go g f_worth_of_two rfl (by kl_some) fun c' g' hv hd' => ?_).call
  rw [hn] at hv
  conv => arg 3; whnf
  iterate 1 tlg_ne
  refine xs_asgComp (frees := []) (N := 2) (G := fun _ => True) (item := fun i => [V.int x, V.int y].getD i .none) hv ⟨fun env h => closure_of (by kernel_rfl) env h, (by intro z hz; cases hz), by kernel_rfl, ?_, ?_⟩ (first_val ?_) (by kernel_rfl) ?_
  · intro x hx; revert x; decide +kernel
  · intro x hx; revert x; decide +kernel
  · repeat tlg_ne
    refine ⟨iter_tup worth_item fun v h ρ pv r => vr_nil r, fun i m2 H2 => Ext [] H H2 ∧ H2[H.length]? = some (.list (List.replicate i (.bool false))), ⟨Ext.refl.app, hs_last⟩, fun _ _ _ _ => trivial, ?_, ?_⟩
    · rintro i m2 H2 hi ⟨x2, y2⟩
      obtain ⟨z, hz⟩ : ∃ z : Int, [V.int x, V.int y].getD i .none = .int z := by
        match i, hi with
        | 0, _ => exact ⟨x, rfl⟩
        | 1, _ => exact ⟨y, rfl⟩
      show TgW _ _ _ ([V.int x, V.int y].getD i .none) _ _ _
      rw [hz]
      repeat tlg_ne
      refine ⟨_, y2, by rw [List.length_replicate]; lia, x2.setN (Nat.le_refl _), ?_⟩
      rw [hs_here y2, List.replicate_succ']
    · rintro m2 H2 ⟨x2, y2⟩
      have w : H2[H.length]? = some (.list [.bool false, .bool false]) := y2
      repeat tlg_ne
      rw [lt_val]
      repeat tlg_ne
      exact hq _ x2
  · refine scope_eq ?_
    intros
    rfl
end
/-! ### S11 -/
section
variable {c : Cx} {p : Params} {H : HA} {Q : V → HA → Prop} {X : Addr → HA → Prop}
theorem sp_value_push (g : Gd c p) (hd : 1 ≤ c.d) (hn : c.hv = none) {n hk : Nat} {cd v b d w pl r : V} {k : Int} (h0 : H[n]? = some (.inst 621 (runF cd v b d (.ref hk) w pl r))) (hq : Q (.int k) H) : CallW c (.glob 618) [.ref n, vOd (.push k)] H Q X := by
  refine (fn_go g f_RowRun_value_of rfl (by kl_some) fun c' g' hv hd' => ?_).call
  rw [hn] at hv
  conv => arg 3; whnf
  simp only [vOd, wOd, aOd]
  repeat tlg_ne
  exact hq
theorem sp_value_var (g : Gd c p) (hd : 2 ≤ c.d) (hn : c.hv = none) {n hk vd ak : Nat} {cd v b d w pl r v1 v2 : V} {a bb : Int} {as : List V} (h0 : H[n]? = some (.inst 621 (runF cd v b d (.ref hk) w pl r))) (h1 : H[hk]? = some (.inst 544 (hooksF (.ref vd) v1 v2 (.ref ak)))) (h2 : H[vd]? = some (.dictS (nmD a bb))) (h3 : H[ak]? = some (.list as)) (hz : as.length ≤ 1000)
    (hq : Q (.int a) (H.set ak (.list (as ++ [.str ("A" : Str)])))) : CallW c (.glob 618) [.ref n, vOd .var] H Q X := by
  refine (fn_go g f_RowRun_value_of rfl (by kl_some) fun c' g' hv hd' => ?_).call
  rw [hn] at hv
  conv => arg 3; whnf
  simp only [vOd, wOd, aOd]
  repeat tlg_ne
  refine sp_value_of_name g' (by kl_some) h1 h2 h3 hz ?_
  repeat tlg_ne
  exact hq
theorem sp_value_two (g : Gd c p) (hd : 6 ≤ c.d) (hn : c.hv = none) {n pi hk : Nat} {cd v w r : V} {ps : List Int} {x y z : Int} {o : Str} (h0 : H[n]? = some (.inst 621 (runF cd v (.int 16) (.int 9) (.ref hk) w (.ref pi) r))) (h1 : H[pi]? = some (.list ((ps ++ [x, y]).map .int))) (hz : ps.length ≤ 1000)
    (ho : (o = ("+" : Str) ∧ -1000 ≤ x + y ∧ x + y ≤ 1000 ∧ z = x + y) ∨ (o = ("<" : Str) ∧ z = if x < y then -1 else 0))
    (hq : ∀ pj H', Ext [n] H H' → H.length ≤ pj → H'[n]? = some (.inst 621 (runF cd v (.int 16) (.int 9) (.ref hk) w (.ref pj) r)) → H'[pj]? = some (.list (ps.map .int)) → Q (.int z) H') : CallW c (.glob 618) [.ref n, .tup [.str ("TWO" : Str), .str o]] H Q X := by
  refine (fn_go g f_RowRun_value_of rfl (by kl_some) fun c' g' hv hd' => ?_).call
  rw [hn] at hv
  conv => arg 3; whnf
  repeat tlg_ne
  refine sp_taken2 g' (by kl_some) h0 h1 hz fun f pj H1 x1 l1 l2 y1 y2 y3 => ?_
  repeat tlg_ne
  refine tg_lst hv y1 ?_ (by simp)
  repeat tlg_ne
  rcases ho with ⟨rfl, hi, hi', rfl⟩ | ⟨rfl, rfl⟩
  · refine sp_two_add g' (by kl_some) hv hi hi' fun H2 x2 => ?_
    repeat tlg_ne
    exact hq pj H2 (x1.trans (x2.mono (by simp))) l2 (x2.get (by simp) y2) (x2.get (by simp) y3)
  · refine sp_two_lt g' (by kl_some) hv fun H2 x2 => ?_
    repeat tlg_ne
    exact hq pj H2 (x1.trans (x2.mono (by simp))) l2 (x2.get (by simp) y2) (x2.get (by simp) y3)
end
/-! ### S12 -/
/-! the law's own hooks -/
noncomputable def cloAt (K : Frag) (i : Nat) (qual : Str) (cl : List (Str × Nat)) : CloD := match (bodyOf K 653)[i]? with
  | some (.FunctionDef name params body _ _ _ scope _ _ _) => ⟨name, qual, params, body, scope, cl⟩
  | _ => ⟨qual, qual, (fdOf K 653).params, [], (fdOf K 653).scope, cl⟩
noncomputable def begD (p : Params) (cb : Nat) : CloD := cloAt (KK p) 1 ("_law_begun.<locals>.begin" : Str) [(("rows_begun" : Str), cb)]
noncomputable def stoD (p : Params) (ch : Nat) : CloD := cloAt (KK p) 2 ("_law_begun.<locals>.store" : Str) [(("hooks" : Str), ch)]
noncomputable def leaD (p : Params) : CloD := cloAt (KK p) 3 ("_law_begun.<locals>.led" : Str) []
theorem cloOk {d : CloD} {names : List Str} (hb : ∀ (doc pm cv ctv : Value) (clos : List (Str × Addr)) (vs : List Value), vs.length = names.length → bindArgs (fnX d.name d.qual d.params d.body d.scope clos .none .none doc pm none cv ctv) ⟨vs, []⟩ = pure (names.zip vs))
    (h : (decide names.Nodup && d.scope.names.all (fun x => x.2 != .cell) && names.all (fun y => d.scope.names.lookup y == some .local) && !d.scope.isCoroutine && !d.scope.isGenerator && d.scope.kind == .function) = true) : CloOk d names := by
  simp only [Bool.and_eq_true, List.all_eq_true, decide_eq_true_eq, beq_iff_eq, bne_iff_ne, Bool.not_eq_true'] at h
  obtain ⟨⟨⟨⟨⟨h1, h2⟩, h3⟩, h4⟩, h5⟩, h6⟩ := h
  exact ⟨hb, h1, h2, h3, h4, h5, h6⟩
theorem c_beg {p : Params} {cb : Nat} : CloOk (begD p cb) [("row" : Str)] := cloOk (fun doc pm cv ctv clos vs h => by
  obtain ⟨a, rfl⟩ := len1 h
  kernel_rfl) (by kernel_rfl)
theorem c_sto {p : Params} {ch : Nat} : CloOk (stoD p ch) [("name" : Str), ("value" : Str)] := cloOk (fun doc pm cv ctv clos vs h => by
  obtain ⟨a, b, rfl⟩ := len2 h
  kernel_rfl) (by kernel_rfl)
theorem c_lea {p : Params} : CloOk (leaD p) [("row" : Str), ("wrong" : Str)] := cloOk (fun doc pm cv ctv clos vs h => by
  obtain ⟨a, b, rfl⟩ := len2 h
  kernel_rfl) (by kernel_rfl)
section
variable {c : Cx} {p : Params} {H : HA} {Q : V → HA → Prop} {X : Addr → HA → Prop}
theorem sp_begin (g : Gd c p) (G : GP c.B) (hd : 3 ≤ c.d) (hn : c.hv = none) {nb cb bl : Nat} {bg : List Nat} {i : Nat} (h0 : H[nb]? = some (.clo (begD p cb))) (h1 : H[cb]? = some (.cell (some (.ref bl)))) (h2 : H[bl]? = some (.list (natV bg))) (hz : bg.length ≤ 30)
    (hq : bg.length < 30 → Q .none (H.set bl (.list (natV bg ++ [.int i])))) (hx : bg.length = 30 → ∀ e, X e (H.set bl (.list (natV bg ++ [.int i])))) : CallW c (.ref nb) [.int i] H Q X := by
  refine clo_call h0 c_beg rfl (by kl_some) fun a cd => ?_
  have g' : Gd ⟨c.B, c.hv, c.d - 1⟩ p := g.next
  have hlb : (natV bg).length = bg.length := List.length_map ..
  conv => arg 3; whnf
  by_cases hlt : bg.length < 30
  · repeat tlg_ne
    exact hq hlt
  · repeat tlg_ne
    refine xs_raise (s_BE g') (t_BE g') ?_
    repeat tlg_ne
    refine ev_glob (n_BasicError g') (by kernel_rfl) ?_
    repeat tlg_ne
    exact sp_BasicError g' G (by show 1 ≤ c.d - 1; lia) fun e => ⟨e, rfl, .inl hn, hx (by kl_some) e⟩
theorem sp_store (g : Gd c p) (hd : 1 ≤ c.d) {no ch hk vd : Nat} {v1 v2 v3 : V} {a b v : Int} {s : Bool} (h0 : H[no]? = some (.clo (stoD p ch))) (h1 : H[ch]? = some (.cell (some (.ref hk)))) (h2 : H[hk]? = some (.inst 544 (hooksF (.ref vd) v1 v2 v3))) (h3 : H[vd]? = some (.dictS (nmD a b)))
    (hq : Q .none (H.set vd (.dictS (nmD (if s then a else v) (if s then v else b))))) : CallW c (.ref no) [vNm s, .int v] H Q X := by
  refine clo_call h0 c_sto rfl (by kl_some) fun a cd => ?_
  have g' : Gd ⟨c.B, c.hv, c.d - 1⟩ p := g.next
  conv => arg 3; whnf
  repeat tlg_ne
  cases s
  · refine set_dictS (ks := ("A" : Str)) h3 (by simp) ?_
    rw [nm_setA]
    repeat tlg_ne
    exact hq
  · refine set_dictS (ks := ("B" : Str)) h3 (by simp) ?_
    rw [nm_setB]
    repeat tlg_ne
    exact hq
theorem sp_led (g : Gd c p) (hd : 1 ≤ c.d) {nl : Nat} {e : Addr} {r : V} (h0 : H[nl]? = some (.clo (leaD p))) (hv : c.hv = some (.ref e)) (hx : X e H) : CallW c (.ref nl) [r, .exc e] H Q X := by
  refine clo_call h0 c_lea rfl (by kl_some) fun a cd => ?_
  have g' : Gd ⟨c.B, c.hv, c.d - 1⟩ p := g.next
  conv => arg 3; whnf
  repeat tlg_ne
  refine xs_raise (s_BE g') (t_BE g') ?_
  repeat tlg_ne
  exact ⟨e, rfl, .inr hv, hx⟩
end
/-! ### S13 -/
/-! the machine's state -/
structure Ix where
  H0 : HA
  n : Nat
  cd : Nat
  o : Nat
  s : Nat
  hk : Nat
  vd : Nat
  ak : Nat
  wy : Nat
  nb : Nat
  no : Nat
  nl : Nat
  bl : Nat
  cb : Nat
  ch : Nat
  vs : Nat
structure IxOk (I : Ix) : Prop where
  ako : I.ak ≠ I.o
  aks : I.ak ≠ I.s
  akb : I.ak ≠ I.bl
  blo : I.bl ≠ I.o
  bls : I.bl ≠ I.s
  fn : I.H0.length ≤ I.n
  fv : I.H0.length ≤ I.vd
  fa : I.H0.length ≤ I.ak
  fb : I.H0.length ≤ I.bl
theorem Ext.over {H0 H H' : HA} {ch : List Nat} (x : Ext [] H0 H) (y : Ext ch H H') (h : ∀ i ∈ ch, H0.length ≤ i) : Ext [] H0 H' :=
  ⟨Nat.le_trans x.1 y.1, fun i o e n => y.2 i o (x.2 i o e n) fun z => by have := h i z; have := (List.getElem?_eq_some_iff.mp e).1; lia⟩
/-- what stands still through a run -/
structure MF (I : Ix) (p : Params) (os : List Od) (st : List Nat) (H : HA) : Prop where
  code : H[I.cd]? = some (.inst 343 (codeF (.ref I.o) (.ref I.s)))
  ords : H[I.o]? = some (.list (os.map vOd))
  sts : H[I.s]? = some (.list (natV (0 :: st)))
  hook : H[I.hk]? = some (.inst 544 (hooksF (.ref I.vd) (.int 16) (.int 9) (.ref I.ak)))
  ways : H[I.wy]? = some (.inst 565 (waysF (.ref I.nb) (.ref I.no) .none .none (.ref I.nl)))
  beg : H[I.nb]? = some (.clo (begD p I.cb))
  sto : H[I.no]? = some (.clo (stoD p I.ch))
  lea : H[I.nl]? = some (.clo (leaD p))
  cbg : H[I.cb]? = some (.cell (some (.ref I.bl)))
  chk : H[I.ch]? = some (.cell (some (.ref I.hk)))
structure MS (I : Ix) (p : Params) (os : List Od) (st : List Nat) (H : HA) (bg : List Nat) (a b : Int) (pile : List Int) (k pi : Nat) (row : Int) : Prop where
  fix : MF I p os st H
  run : H[I.n]? = some (.inst 621 (runF (.ref I.cd) (.ref I.vs) (.int 16) (.int 9) (.ref I.hk) (.ref I.wy) (.ref pi) (.int row)))
  stk : H[pi]? = some (.list (pile.map .int))
  vals : H[I.vd]? = some (.dictS (nmD a b))
  asked : ∃ as : List V, H[I.ak]? = some (.list as) ∧ as.length = k
  begun : H[I.bl]? = some (.list (natV bg))
  po : pi ≠ I.o
  ps : pi ≠ I.s
  pa : pi ≠ I.ak
  pb : pi ≠ I.bl
  ext : Ext [] I.H0 H
  pf : I.H0.length ≤ pi
section
variable {I : Ix} {p : Params} {os : List Od} {st : List Nat} {H H' : HA} {bg : List Nat} {a b : Int} {pile : List Int} {k pi : Nat} {row : Int}
theorem MF.keep (m : MF I p os st H) (h : ∀ i o, H[i]? = some o → (∀ es, o ≠ .dictS es) → (∀ c fs, o = .inst c fs → c ≠ 621) → (∀ xs, o = .list xs → i = I.o ∨ i = I.s) → H'[i]? = some o) : MF I p os st H' :=
  ⟨h _ _ m.code (by simp) (by simp) (by simp), h _ _ m.ords (by simp) (by simp) (by simp), h _ _ m.sts (by simp) (by simp) (by simp), h _ _ m.hook (by simp) (by simp) (by simp), h _ _ m.ways (by simp) (by simp) (by simp), h _ _ m.beg (by simp) (by simp) (by simp),
   h _ _ m.sto (by simp) (by simp) (by simp), h _ _ m.lea (by simp) (by simp) (by simp), h _ _ m.cbg (by simp) (by simp) (by simp), h _ _ m.chk (by simp) (by simp) (by simp)⟩
theorem MF.ext {ch : List Nat} (m : MF I p os st H) (x : Ext ch H H') (h : ∀ i ∈ ch, ∃ o, H[i]? = some o ∧ ((∃ es, o = .dictS es) ∨ (∃ fs, o = .inst 621 fs) ∨ ((∃ xs, o = .list xs) ∧ i ≠ I.o ∧ i ≠ I.s))) : MF I p os st H' :=
  m.keep fun i o e h1 h2 h3 => x.get (fun hi => by
    obtain ⟨o', e', hc⟩ := h i hi
    rw [e] at e'; cases e'
    rcases hc with ⟨es, rfl⟩ | ⟨fs, rfl⟩ | ⟨⟨xs, rfl⟩, z1, z2⟩
    · exact h1 _ rfl
    · exact h2 _ _ rfl rfl
    · rcases h3 _ rfl with h | h
      · exact z1 h
      · exact z2 h) e
/-- the run's own list changes -/
theorem MS.pile_ (m : MS I p os st H bg a b pile k pi row) {pile' : List Int} : MS I p os st (H.set pi (.list (pile'.map .int))) bg a b pile' k pi row := by
  obtain ⟨as, ha, hk⟩ := m.asked
  exact ⟨m.fix.ext (ch := [pi]) (Ext.refl.set (by simp)) (by simp only [List.mem_singleton]; rintro i rfl; exact ⟨_, m.stk, .inr (.inr ⟨⟨_, rfl⟩, m.po, m.ps⟩)⟩), hs_skipO m.stk m.run (by simp), hs_here m.stk, hs_skipO m.stk m.vals (by simp), ⟨as, hs_skip m.pa ha, hk⟩, hs_skip m.pb m.begun, m.po, m.ps, m.pa, m.pb, m.ext.setN m.pf, m.pf⟩
theorem MS.ask_ (J : IxOk I) (m : MS I p os st H bg a b pile k pi row) {as : List V} (ha : H[I.ak]? = some (.list as)) {as' : List V} (hk : as'.length = k + 1) : MS I p os st (H.set I.ak (.list as')) bg a b pile (k + 1) pi row :=
  ⟨m.fix.ext (ch := [I.ak]) (Ext.refl.set (by simp)) (by simp only [List.mem_singleton]; rintro i rfl; exact ⟨_, ha, .inr (.inr ⟨⟨_, rfl⟩, J.ako, J.aks⟩)⟩), hs_skipO ha m.run (by simp), hs_skip m.pa.symm m.stk, hs_skipO ha m.vals (by simp), ⟨as', hs_here ha, hk⟩, hs_skip J.akb m.begun, m.po, m.ps, m.pa, m.pb, m.ext.setN J.fa, m.pf⟩
theorem MS.vals_ (J : IxOk I) (m : MS I p os st H bg a b pile k pi row) {a' b' : Int} : MS I p os st (H.set I.vd (.dictS (nmD a' b'))) bg a' b' pile k pi row := by
  obtain ⟨as, ha, hk⟩ := m.asked
  exact ⟨m.fix.ext (ch := [I.vd]) (Ext.refl.set (by simp)) (by simp only [List.mem_singleton]; rintro i rfl; exact ⟨_, m.vals, .inl ⟨_, rfl⟩⟩), hs_skipO m.vals m.run (by simp), hs_skipO m.vals m.stk (by simp), hs_here m.vals, ⟨as, hs_skipO m.vals ha (by simp), hk⟩, hs_skipO m.vals m.begun (by simp), m.po, m.ps, m.pa, m.pb, m.ext.setN J.fv, m.pf⟩
theorem MS.begun_ (J : IxOk I) (m : MS I p os st H bg a b pile k pi row) {bg' : List Nat} : MS I p os st (H.set I.bl (.list (natV bg'))) bg' a b pile k pi row := by
  obtain ⟨as, ha, hk⟩ := m.asked
  exact ⟨m.fix.ext (ch := [I.bl]) (Ext.refl.set (by simp)) (by simp only [List.mem_singleton]; rintro i rfl; exact ⟨_, m.begun, .inr (.inr ⟨⟨_, rfl⟩, J.blo, J.bls⟩)⟩), hs_skipO m.begun m.run (by simp), hs_skip m.pb.symm m.stk, hs_skipO m.begun m.vals (by simp), ⟨as, hs_skip J.akb.symm ha, hk⟩, hs_here m.begun, m.po, m.ps, m.pa, m.pb, m.ext.setN J.fb, m.pf⟩
/-- the run object is written anew -/
theorem MS.run_ {pj : Nat} (J : IxOk I) (m : MS I p os st H bg a b pile k pi row) {row' : Int} {pile' : List Int} (x : Ext [I.n] H H') (hr : H'[I.n]? = some (.inst 621 (runF (.ref I.cd) (.ref I.vs) (.int 16) (.int 9) (.ref I.hk) (.ref I.wy) (.ref pj) (.int row')))) (hp : H'[pj]? = some (.list (pile'.map .int)))
    (hj : pj = pi ∨ H.length ≤ pj) : MS I p os st H' bg a b pile' k pj row' := by
  obtain ⟨as, ha, hk⟩ := m.asked
  have lt : ∀ {i : Nat} {o : Ob}, H[i]? = some o → i < H.length := fun e => (List.getElem?_eq_some_iff.mp e).1
  have ne : ∀ {i : Nat} {o : Ob}, H[i]? = some o → pi ≠ i → pj ≠ i := fun e h => by
    rcases hj with rfl | hj
    · exact h
    · have := lt e; lia
  have nn : ∀ {i : Nat} {o : Ob}, H[i]? = some o → (∀ fs, o ≠ .inst 621 fs) → i ∉ [I.n] := fun e h z => by
    rw [List.mem_singleton.mp z, m.run] at e
    cases e; exact h _ rfl
  exact ⟨m.fix.ext x (by simp only [List.mem_singleton]; rintro i rfl; exact ⟨_, m.run, .inr (.inl ⟨_, rfl⟩)⟩), hr, hp, x.get (nn m.vals (by simp)) m.vals, ⟨as, x.get (nn ha (by simp)) ha, hk⟩, x.get (nn m.begun (by simp)) m.begun, ne m.fix.ords m.po, ne m.fix.sts m.ps, ne ha m.pa, ne m.begun m.pb, m.ext.over x (by simp only [List.mem_singleton]; rintro i rfl; exact J.fn), by
    rcases hj with rfl | hj
    · exact m.pf
    · have := m.ext.1; lia⟩
end
/-! ### S14 -/
inductive Rn (os : List Od) : Nat → Nat → List Int → List Nat → Nat → Int → Int → (List Nat × Int × Int) → Prop
  | fin {pc k : Nat} {pile : List Int} {bg : List Nat} {a b : Int} : os[pc]? = some .fin → Rn os 0 pc pile bg k a b (bg, a, b)
  | stop {pc k i : Nat} {pile : List Int} {bg : List Nat} {a b : Int} : os[pc]? = some (.row i) → bg.length = 30 → Rn os 0 pc pile bg k a b (bg, a, b)
  | row {n pc k i : Nat} {pile : List Int} {bg : List Nat} {a b : Int} {o : List Nat × Int × Int} : os[pc]? = some (.row i) → bg.length < 30 → Rn os n (pc + 1) pile (bg ++ [i]) k a b o → Rn os (n + 1) pc pile bg k a b o
  | var {n pc k : Nat} {pile : List Int} {bg : List Nat} {a b : Int} {o : List Nat × Int × Int} : os[pc]? = some .var → k ≤ 900 → pile.length ≤ 900 → Rn os n (pc + 1) (pile ++ [a]) bg (k + 1) a b o → Rn os (n + 1) pc pile bg k a b o
  | push {n pc k : Nat} {pile : List Int} {bg : List Nat} {a b v : Int} {o : List Nat × Int × Int} : os[pc]? = some (.push v) → pile.length ≤ 900 → Rn os n (pc + 1) (pile ++ [v]) bg k a b o → Rn os (n + 1) pc pile bg k a b o
  | add {n pc k : Nat} {ps : List Int} {bg : List Nat} {a b x y : Int} {o : List Nat × Int × Int} : os[pc]? = some .add → ps.length ≤ 900 → -1000 ≤ x + y → x + y ≤ 1000 → Rn os n (pc + 1) (ps ++ [x + y]) bg k a b o → Rn os (n + 1) pc (ps ++ [x, y]) bg k a b o
  | lt {n pc k : Nat} {ps : List Int} {bg : List Nat} {a b x y : Int} {o : List Nat × Int × Int} : os[pc]? = some .lt → ps.length ≤ 900 → Rn os n (pc + 1) (ps ++ [if x < y then -1 else 0]) bg k a b o → Rn os (n + 1) pc (ps ++ [x, y]) bg k a b o
  | store {n pc k : Nat} {s : Bool} {ps : List Int} {bg : List Nat} {a b v : Int} {o : List Nat × Int × Int} : os[pc]? = some (.store s) → ps.length ≤ 900 → Rn os n (pc + 1) ps bg k (if s then a else v) (if s then v else b) o → Rn os (n + 1) pc (ps ++ [v]) bg k a b o
  | go {n pc k t : Nat} {pile : List Int} {bg : List Nat} {a b : Int} {o : List Nat × Int × Int} : os[pc]? = some (.go t) → Rn os n t pile bg k a b o → Rn os (n + 1) pc pile bg k a b o
  | tst {n pc k t : Nat} {ps : List Int} {bg : List Nat} {a b v : Int} {o : List Nat × Int × Int} : os[pc]? = some (.tst t) → ps.length ≤ 900 → Rn os n (if v = 0 then t else pc + 1) ps bg k a b o → Rn os (n + 1) pc (ps ++ [v]) bg k a b o
theorem fn_goB {c : Cx} {p : Params} {H : HA} {Q : V → HA → Prop} {X : Addr → HA → Prop} {xs : List V} {f : Nat} {names : List Str} (g : Gd c p) (h : FnOk (KK p) f (fdOf (KK p) f) names (bodyOf (KK p) f))
    (hl : names.length = xs.length) (hd : 1 ≤ c.d) (e : ∀ c', Gd c' p → c'.hv = c.hv → c'.B = c.B → c'.d + 1 = c.d → ExW c' (frOf f (fdOf (KK p) f)) (bodyOf (KK p) f) (names.zip xs) H (FnK Q) (FnX X)) : CodeW c f xs H Q X :=
  fn_at g h hl hd (e _ g.next rfl rfl (Nat.sub_add_cancel hd))
section
variable {c : Cx} {p : Params} {H : HA} {Q : V → HA → Prop} {X : Addr → HA → Prop} {I : Ix} {os : List Od} {st : List Nat} {bg : List Nat} {a b : Int} {pile : List Int} {k pi pc n : Nat} {row : Int} {out : List Nat × Int × Int}
theorem sp_done (g : Gd c p) (G : GP c.B) (hd : 8 ≤ c.d) (hn : c.hv = none) (J : IxOk I) (m : MS I p os st H bg a b pile k pi row) (hr : Rn os n pc pile bg k a b out) {o : Od} (ho : os[pc]? = some o) (hf : o ≠ .fin) (hbg : bg.length ≤ 30) (hlen : os.length ≤ 1000)
    (hq : ∀ n' (pc' : Nat) pile' bg' k' a' b' pi' row' H', n' < n → Rn os n' pc' pile' bg' k' a' b' out → bg'.length ≤ 30 → MS I p os st H' bg' a' b' pile' k' pi' row' → Q (.int pc') H')
    (hx : ∀ e i row' H', bg.length = 30 → out = (bg, a, b) → MS I p os st H' (bg ++ [i]) a b pile k pi row' → X e H') : CallW c (.glob 611) [.ref I.n, vOd o, .int pc] H Q X := by
  refine (fn_goB g f_RowRun_done rfl (by kl_some) fun c' g' hv hB hd' => ?_).call
  rw [hn] at hv
  have G' : GP c'.B := by rw [hB]; exact G
  conv => arg 3; whnf
  have hrun := m.run
  have hstk := m.stk
  have hpl : pc < os.length := (List.getElem?_eq_some_iff.mp ho).1
  cases hr with
  | fin e => rw [ho] at e; cases e; exact absurd rfl hf
  | @stop _ _ i _ _ _ _ e h30 =>
    rw [ho] at e; cases e
    have hways := m.fix.ways
    have m1 : MS I p os st (H.set I.n (.inst 621 (runF (.ref I.cd) (.ref I.vs) (.int 16) (.int 9) (.ref I.hk) (.ref I.wy) (.ref pi) (.int i)))) bg a b pile k pi i := m.run_ J (Ext.refl.set (by simp)) (hs_here hrun) (hs_skipO hrun m.stk (by simp)) (.inl rfl)
    have en : natV (bg ++ [i]) = natV bg ++ [V.int i] := by simp [natV]
    simp only [vOd, wOd, aOd]
    repeat tlg_ne
    refine ⟨keep_clo m1.fix.beg, sp_begin g' G' (by kl_some) hv m1.fix.beg m1.fix.cbg m1.begun hbg (fun h => by lia) fun _ e => ?_⟩
    exact hx e i _ _ h30 rfl (en ▸ m1.begun_ J (bg' := bg ++ [i]))
  | @row n' _ _ i _ _ _ _ _ e h30 hr =>
    rw [ho] at e; cases e
    have hways := m.fix.ways
    have m1 : MS I p os st (H.set I.n (.inst 621 (runF (.ref I.cd) (.ref I.vs) (.int 16) (.int 9) (.ref I.hk) (.ref I.wy) (.ref pi) (.int i)))) bg a b pile k pi i := m.run_ J (Ext.refl.set (by simp)) (hs_here hrun) (hs_skipO hrun m.stk (by simp)) (.inl rfl)
    have en : natV (bg ++ [i]) = natV bg ++ [V.int i] := by simp [natV]
    simp only [vOd, wOd, aOd]
    repeat tlg_ne
    refine ⟨keep_clo m1.fix.beg, sp_begin g' G' (by kl_some) hv m1.fix.beg m1.fix.cbg m1.begun hbg (fun h => ?_) fun h => by lia⟩
    repeat tlg_ne
    exact hq _ (pc + 1) _ _ _ _ _ _ _ _ (Nat.lt_succ_self _) hr (by simp; lia) (en ▸ m1.begun_ J (bg' := bg ++ [i]))
  | var e h1 h2 hr =>
    rw [ho] at e; cases e
    obtain ⟨as, ha, hk⟩ := m.asked
    simp only [vOd, wOd, aOd]
    repeat tlg_ne
    refine sp_value_var g' (by kl_some) hv m.run m.fix.hook m.vals ha (by kl_some) ?_
    have m1 := m.ask_ J ha (as' := as ++ [.str ("A" : Str)]) (by simp [hk])
    have r1 := m1.run
    have s1 := m1.stk
    repeat tlg_ne
    exact hq _ (pc + 1) _ _ _ _ _ _ _ _ (Nat.lt_succ_self _) hr hbg (by
      have := m1.pile_ (pile' := pile ++ [a])
      rw [List.map_append] at this; exact this)
  | @push _ _ _ _ _ _ _ v _ e h1 hr =>
    rw [ho] at e; cases e
    simp only [vOd, wOd, aOd]
    repeat tlg_ne
    refine sp_value_push g' (by kl_some) hv m.run ?_
    repeat tlg_ne
    exact hq _ (pc + 1) _ _ _ _ _ _ _ _ (Nat.lt_succ_self _) hr hbg (by
      have := m.pile_ (pile' := pile ++ [v])
      rw [List.map_append] at this; exact this)
  | @add _ _ _ ps _ _ _ x y _ e h1 h2 h3 hr =>
    rw [ho] at e; cases e
    simp only [vOd, wOd, aOd]
    repeat tlg_ne
    refine sp_value_two g' (by kl_some) hv m.run m.stk (by kl_some) (.inl ⟨rfl, h2, h3, rfl⟩) fun pj H1 x1 l1 y1 y2 => ?_
    have m1 := m.run_ J x1 y1 y2 (.inr l1)
    repeat tlg_ne
    exact hq _ (pc + 1) _ _ _ _ _ _ _ _ (Nat.lt_succ_self _) hr hbg (by
      have := m1.pile_ (pile' := ps ++ [x + y])
      rw [List.map_append] at this; exact this)
  | @lt _ _ _ ps _ _ _ x y _ e h1 hr =>
    rw [ho] at e; cases e
    simp only [vOd, wOd, aOd]
    repeat tlg_ne
    refine sp_value_two g' (by kl_some) hv m.run m.stk (by kl_some) (.inr ⟨rfl, rfl⟩) fun pj H1 x1 l1 y1 y2 => ?_
    have m1 := m.run_ J x1 y1 y2 (.inr l1)
    repeat tlg_ne
    exact hq _ (pc + 1) _ _ _ _ _ _ _ _ (Nat.lt_succ_self _) hr hbg (by
      have := m1.pile_ (pile' := ps ++ [if x < y then -1 else 0])
      rw [List.map_append] at this; exact this)
  | @store _ _ _ s ps _ _ _ v _ e h1 hr =>
    rw [ho] at e; cases e
    have hsp : splitL (List.map V.int (ps ++ [v])) = some (List.map V.int ps, .int v) := by rw [List.map_append]; exact splitL_cat
    have hways := m.fix.ways
    have m1 := m.pile_ (pile' := ps)
    simp only [vOd, wOd, aOd]
    repeat tlg_ne
    refine ⟨keep_clo m1.fix.sto, sp_store g' (by kl_some) m1.fix.sto m1.fix.chk m1.fix.hook m1.vals ?_⟩
    repeat tlg_ne
    exact hq _ (pc + 1) _ _ _ _ _ _ _ _ (Nat.lt_succ_self _) hr hbg (m1.vals_ J)
  | @go _ _ _ t _ _ _ _ _ e hr =>
    rw [ho] at e; cases e
    simp only [vOd, wOd, aOd]
    repeat tlg_ne
    exact hq _ t _ _ _ _ _ _ _ _ (Nat.lt_succ_self _) hr hbg m
  | @tst _ _ _ t ps _ _ _ v _ e h1 hr =>
    rw [ho] at e; cases e
    have hsp : splitL (List.map V.int (ps ++ [v])) = some (List.map V.int ps, .int v) := by rw [List.map_append]; exact splitL_cat
    have m1 := m.pile_ (pile' := ps)
    simp only [vOd, wOd, aOd]
    by_cases hv0 : v = 0
    · rw [if_pos hv0] at hr
      repeat tlg_ne
      exact hq _ t _ _ _ _ _ _ _ _ (Nat.lt_succ_self _) hr hbg m1
    · rw [if_neg hv0] at hr
      repeat tlg_ne
      exact hq _ (pc + 1) _ _ _ _ _ _ _ _ (Nat.lt_succ_self _) hr hbg m1
end
/-! ### S15 -/
theorem Rn.at_ {os : List Od} {n pc k : Nat} {pile : List Int} {bg : List Nat} {a b : Int} {o : List Nat × Int × Int} (h : Rn os n pc pile bg k a b o) : ∃ od, os[pc]? = some od := by
  refine Rn.casesOn (motive := fun _ pc _ _ _ _ _ _ _ => ∃ od, os[pc]? = some od) h ?_ ?_ ?_ ?_ ?_ ?_ ?_ ?_ ?_ ?_ <;> intros <;> exact ⟨_, by assumption⟩
theorem fin_of {o : Od} : (o = .fin) ∨ (o ≠ .fin ∧ (wOd o != ("END" : Str)) = true) := by
  cases o
  case fin => exact .inl rfl
  all_goals exact .inr ⟨by simp, by kernel_rfl⟩
theorem fin_END : (wOd .fin != ("END" : Str)) = false := by kernel_rfl
section
variable {c : Cx} {p : Params} {H : HA} {Q : V → HA → Prop} {X : Addr → HA → Prop} {I : Ix} {os : List Od} {st : List Nat} {a b : Int} {k pi N : Nat} {row : Int} {out : List Nat × Int × Int}
theorem sp_go_from (g : Gd c p) (G : GP c.B) (hd : 10 ≤ c.d) (hn : c.hv = none) (J : IxOk I) (m : MS I p os st H [] a b [] k pi row) (hr : Rn os N 0 [] [] k a b out) (hlen : os.length ≤ 1000) (hst : st.length ≤ 100)
    (hq : ∀ bg a b pile k pi row H', out = (bg, a, b) → MS I p os st H' bg a b pile k pi row → Q .none H') (hx : ∀ e i bg a b pile k pi row H', bg.length = 30 → out = (bg, a, b) → MS I p os st H' (bg ++ [i]) a b pile k pi row → X e H') : CallW c (.glob 604) [.ref I.n, .int 0] H Q X := by
  refine (fn_goB g f_RowRun_go_from rfl (by kl_some) fun c' g' hv hB hd' => ?_).call
  rw [hn] at hv
  have G' : GP c'.B := by rw [hB]; exact G
  conv => arg 3; whnf
  have hrun := m.run
  repeat tlg_ne
  refine sp_place0 g' (by kl_some) m.run m.fix.code m.fix.sts hst ?_
  repeat tlg_ne
  obtain ⟨IV, hI⟩ : ∃ IV : Nat → LM → HA → Prop, ∀ n m' H', IV n m' H' ↔ (m'.lookup ("self" : Str) = some (.ref I.n) ∧ ∃ (pc : Nat) (pile : List Int) (bg : List Nat) (k : Nat) (a b : Int) (pi : Nat) (row : Int), m'.lookup ("place" : Str) = some (.int pc) ∧ Rn os n pc pile bg k a b out ∧ bg.length ≤ 30 ∧ MS I p os st H' bg a b pile k pi row) := ⟨_, fun _ _ _ => Iff.rfl⟩
  have hE : ∀ n m' H', IV n m' H' → ∀ C : Prop, (m'.lookup ("self" : Str) = some (.ref I.n) → ∀ (pc : Nat) (pile : List Int) (bg : List Nat) (k : Nat) (a b : Int) (pi : Nat) (row : Int), m'.lookup ("place" : Str) = some (.int pc) → Rn os n pc pile bg k a b out → bg.length ≤ 30 → MS I p os st H' bg a b pile k pi row → C) → C := fun _ _ _ h C z => by obtain ⟨v1, pc, pile, bg, k, a, b, pi, row, v2, v3, v4, v5⟩ := (hI _ _ _).1 h; exact z v1 pc pile bg k a b pi row v2 v3 v4 v5
  refine xs_while IV N rfl ?_ ?_
  · exact (hI _ _ _).2 ⟨by lcg_off, 0, [], [], k, a, b, pi, row, by exact lk_set, hr, Nat.zero_le _, m⟩
  · intro n m' H' h00
    refine hE _ _ _ h00 _ fun l1 pc pile bg k a b pi row l2 hr hbg m => ?_
    obtain ⟨od, ho⟩ := hr.at_
    have hpl : pc < os.length := (List.getElem?_eq_some_iff.mp ho).1
    have hxx : (List.map vOd os)[((pc : Nat) : Int).toNat]? = some (vOd od) := by show (List.map vOd os)[pc]? = _; rw [List.getElem?_map, ho]; rfl
    have hrun := m.run
    have hcode := m.fix.code
    have hords := m.fix.ords
    have hways := m.fix.ways
    rcases @fin_of od with rfl | ⟨hf, e1⟩
    · have e1 := fin_END
      repeat tlg_ne
      refine hq bg a b pile k pi row _ ?_ m
      cases hr with
      | fin => rfl
      | _ e => exact absurd (ho.symm.trans e) (by simp)
    · repeat tlg_ne
      refine xs_tryAs (x_BE g') rfl (by kernel_rfl) ?_
      repeat tlg_ne
      refine sp_done g' G' (by kl_some) hv J m hr ho hf hbg hlen (fun n' pc' pile' bg' k' a' b' pi' row' H1 hlt hr' hbg' m' => ?_) (fun e i row' H1 h30 ho' m' => ?_)
      · repeat tlg_ne
        exact ⟨n', hlt, (hI _ _ _).2 ⟨by lcg_off, pc', pile', bg', k', a', b', pi', row', by lcg_off, hr', hbg', m'⟩⟩
      · have g'' : Gd ⟨c'.B, some (.ref e), c'.d⟩ p := g'.next
        have hrun' := m'.run
        have hways' := m'.fix.ways
        refine ev_glob (n_BE g'') (by kernel_rfl) ⟨rfl, rfl, ?_⟩
        repeat tlg_ne
        have hnH : I.n < H1.length := (List.getElem?_eq_some_iff.mp hrun').1
        have m2 : MS I p os st ((H1 ++ [Ob.list []]).set I.n (.inst 621 (runF (.ref I.cd) (.ref I.vs) (.int 16) (.int 9) (.ref I.hk) (.ref I.wy) (.ref H1.length) (.int row')))) (bg ++ [i]) a b [] k H1.length row' :=
          m'.run_ J (Ext.refl.app.set (by simp)) (hs_here (hs_app hrun')) (hs_skip (by kl_some) hs_last) (.inr (Nat.le_refl _))
        exact ⟨keep_clo m2.fix.lea, sp_led g'' (by show 1 ≤ c'.d; lia) m2.fix.lea rfl (hx e i bg a b [] k H1.length row' _ h30 ho' m2)⟩
end
/-! ### S16 -/
section
noncomputable def defPos (K : Frag) (i : Nat) : Pos := match (bodyOf K 653)[i]? with
  | some (.FunctionDef _ _ _ _ _ _ _ _ _ pos) => pos
  | _ => ⟨0, 0, 0, 0⟩
/-- the code table of _law_begun -/
structure GT (B : Bx) (p : Params) : Prop where
  cd : B.cd = 652
  tabs : B.tabs = [(defPos (KK p) 1, ("_law_begun.<locals>.begin" : Str)), (defPos (KK p) 2, ("_law_begun.<locals>.store" : Str)), (defPos (KK p) 3, ("_law_begun.<locals>.led" : Str))]
theorem f_law_begun {p : Params} : FnC (KK p) 653 (fdOf (KK p) 653) [("code" : Str)] [("hooks" : Str), ("rows_begun" : Str)] (bodyOf (KK p) 653) := by
  have e : namesOf (KK p) 653 = [("code" : Str)] := by kernel_rfl
  have := fncOk (K := KK p) (f := 653) (ks := [("hooks" : Str), ("rows_begun" : Str)]) (by kernel_rfl) (fun vs h => by
    rw [e] at h
    obtain ⟨a, rfl⟩ := len1 h
    kernel_rfl) (fun n i k h => by
    rcases i with _ | _ | i
    · cases h; kernel_rfl
    · cases h; kernel_rfl
    · simp at h)
  rw [e] at this
  exact this
local macro_rules | `(tactic| tlg_ne) => `(tactic| ((with_reducible refine' tg_cell (hx := ?hx) (hc := ?hc) (hn := ?hn) (hq := ?hq)); (case hx => rfl); (case hc => rfl); (case hn => kst_mem)))
theorem dp12 {p : Params} : ((defPos (KK p) 1).line == (defPos (KK p) 2).line) = false := by kernel_rfl
theorem dp13 {p : Params} : ((defPos (KK p) 1).line == (defPos (KK p) 3).line) = false := by kernel_rfl
theorem dp23 {p : Params} : ((defPos (KK p) 2).line == (defPos (KK p) 3).line) = false := by kernel_rfl
noncomputable abbrev lbFr (p : Params) (n : Nat) : FrA := ⟨(fdOf (KK p) 653).qualname, (fdOf (KK p) 653).scope, 653, (fdOf (KK p) 653).code, [("hooks" : Str), ("rows_begun" : Str)].zipIdx n, true⟩
theorem d_beg {c : Cx} {p : Params} {n : Nat} (T : GT c.B p) : DefOk c (lbFr p n) [("rows_begun" : Str)] (begD p (n + 1)).name (begD p (n + 1)).qual (begD p (n + 1)).params (begD p (n + 1)).scope (defPos (KK p) 1) := by
  refine ⟨fun env h => closure_of (by kernel_rfl) env h, ?_, ?_, rfl, by kernel_rfl, by kernel_rfl, fun env => by kernel_rfl, fun L cells => by kernel_rfl, ?_, ?_⟩
  · intro x hx; rw [List.mem_singleton.mp hx]; rfl
  · rw [T.cd]; kernel_rfl
  · rw [T.tabs]
    intro pq hp h
    simp only [List.mem_cons, List.not_mem_nil, or_false] at hp
    rcases hp with rfl | rfl | rfl
    · kernel_rfl
    · exact absurd (beq_iff_eq.mpr h.1) (by rw [dp12]; simp)
    · exact absurd (beq_iff_eq.mpr h.1) (by rw [dp13]; simp)
  · rw [T.tabs]; exact List.mem_cons_self ..
theorem d_sto {c : Cx} {p : Params} {n : Nat} (T : GT c.B p) : DefOk c (lbFr p n) [("hooks" : Str)] (stoD p n).name (stoD p n).qual (stoD p n).params (stoD p n).scope (defPos (KK p) 2) := by
  refine ⟨fun env h => closure_of (by kernel_rfl) env h, ?_, ?_, rfl, by kernel_rfl, by kernel_rfl, fun env => by kernel_rfl, fun L cells => by kernel_rfl, ?_, ?_⟩
  · intro x hx; rw [List.mem_singleton.mp hx]; rfl
  · rw [T.cd]; kernel_rfl
  · rw [T.tabs]
    intro pq hp h
    simp only [List.mem_cons, List.not_mem_nil, or_false] at hp
    rcases hp with rfl | rfl | rfl
    · exact absurd (beq_iff_eq.mpr h.1.symm) (by rw [dp12]; simp)
    · kernel_rfl
    · exact absurd (beq_iff_eq.mpr h.1) (by rw [dp23]; simp)
  · rw [T.tabs]; exact .tail _ (.head _)
theorem d_lea {c : Cx} {p : Params} {n : Nat} (T : GT c.B p) : DefOk c (lbFr p n) [] (leaD p).name (leaD p).qual (leaD p).params (leaD p).scope (defPos (KK p) 3) := by
  refine ⟨fun env h => closure_of (by kernel_rfl) env h, (by intro x hx; cases hx), ?_, rfl, by kernel_rfl, by kernel_rfl, fun env => by kernel_rfl, fun L cells => by kernel_rfl, ?_, ?_⟩
  · rw [T.cd]; kernel_rfl
  · rw [T.tabs]
    intro pq hp h
    simp only [List.mem_cons, List.not_mem_nil, or_false] at hp
    rcases hp with rfl | rfl | rfl
    · exact absurd (beq_iff_eq.mpr h.1.symm) (by rw [dp13]; simp)
    · exact absurd (beq_iff_eq.mpr h.1.symm) (by rw [dp23]; simp)
    · kernel_rfl
  · rw [T.tabs]; exact .tail _ (.tail _ (.head _))
theorem xs_defE {c : Cx} {fa : FrA} {m : LM} {H : HA} {Q : Fl → LM → HA → Prop} {X : Addr → LM → HA → Prop} {frees : List Str} {name qual : Str} {params : Arguments} {body : List Stmt} {scope : Scope} {pos : Pos} (d : CloD)
    (D : DefOk c fa frees name qual params scope pos) (hx : fa.cs.names.lookup name = some .local) (e : (⟨name, qual, params, body, scope, frees.map fun x => (x, (fa.cl.lookup x).getD 0)⟩ : CloD) = d)
    (hq : Q .next (fset name (.ref H.length) m) (H ++ [.clo d])) : ExS c fa (.FunctionDef name params body [] none [] scope none name pos) m H Q X := xs_def D hx (by rw [e]; exact hq)
local macro_rules | `(tactic| kst_mem) => `(tactic| first | with_reducible exact get_app0 | ((with_reducible refine' Eq.trans get_appN ?_); rfl))
section
variable {c : Cx} {p : Params} {H : HA} {Q : V → HA → Prop} {X : Addr → HA → Prop}
theorem sp_law_begun (g : Gd c p) (G : GP c.B) (T : GT c.B p) (hd : 12 ≤ c.d) (hn : c.hv = none) {n o s N : Nat} {os : List Od} {st : List Nat} {out : List Nat × Int × Int} (h0 : H[n]? = some (.inst 343 (codeF (.ref o) (.ref s)))) (h1 : H[o]? = some (.list (os.map vOd))) (h2 : H[s]? = some (.list (natV (0 :: st))))
    (hr : Rn os N 0 [] [] 0 0 0 out) (hlen : os.length ≤ 1000) (hst : st.length ≤ 100) (hq : ∀ l d H', Ext [] H H' → H.length ≤ l → H.length ≤ d → H'[l]? = some (.list (natV out.1)) → H'[d]? = some (.dictS (nmD out.2.1 out.2.2)) → Q (.tup [.ref l, .ref d, .bool false]) H') : CallW c (.glob 653) [.ref n] H Q X := by
  refine (fn_goC (m0 := [(("code" : Str), .ref n)]) (cvs := [none, none]) g f_law_begun rfl (by kl_some) ?_ rfl ?_ fun c' g' hv hB hd' => ?_).call
  · intro q hq
    simp only [List.mem_cons, List.not_mem_nil, or_false] at hq
    subst hq
    exact ⟨by kernel_rfl, by kernel_rfl⟩
  · intro i k cv h1 h2
    rcases i with _ | _ | i
    · cases h1; cases h2; show ("hooks" : Str) ∉ [("code" : Str)]; decide +kernel
    · cases h1; cases h2; show ("rows_begun" : Str) ∉ [("code" : Str)]; decide +kernel
    · simp at h1
  rw [hn] at hv
  have G' : GP c'.B := by rw [hB]; exact G
  have T' : GT c'.B p := by rw [hB]; exact T
  conv => arg 3; whnf
  show ExW _ _ _ _ (H ++ [Ob.cell none, Ob.cell none]) _ _
  iterate 1 tlg_ne
  refine xs_asgT ?_ (by intro _; rfl) (by refine scope_eq ?_; intros; rfl)
  repeat tlg_ne
  refine ev_dict2 (by decide +kernel) ?_
  repeat tlg_ne
  refine ⟨hs_last, ?_⟩
  rw [set_lst]
  simp only [List.append_assoc, List.cons_append, List.nil_append, List.length_append, List.length_cons, List.length_nil, Nat.zero_add]
  repeat tlg_ne
  simp only [List.append_assoc, List.cons_append, List.nil_append, List.length_append, List.length_cons, List.length_nil, Nat.zero_add, Nat.reduceAdd]
  repeat tlg_ne
  rw [set_appN]
  simp only [List.set_cons_succ, List.set_cons_zero, set_app0]
  refine xs_defE (begD p (H.length + 1)) (d_beg T') (by kernel_rfl) (by kernel_rfl) ?_
  simp only [List.append_assoc, List.cons_append, List.nil_append, List.length_append, List.length_cons, List.length_nil, Nat.zero_add, Nat.reduceAdd]
  refine ex_cons (xs_defE (stoD p H.length) (d_sto T') (by kernel_rfl) (by kernel_rfl) ?_)
  simp only [List.append_assoc, List.cons_append, List.nil_append, List.length_append, List.length_cons, List.length_nil, Nat.zero_add, Nat.reduceAdd]
  refine ex_cons (xs_defE (leaD p) (d_lea T') (by kernel_rfl) (by kernel_rfl) ?_)
  simp only [List.append_assoc, List.cons_append, List.nil_append, List.length_append, List.length_cons, List.length_nil, Nat.zero_add, Nat.reduceAdd]
  repeat tlg_ne
  simp only [List.append_assoc, List.cons_append, List.nil_append, List.length_append, List.length_cons, List.length_nil, Nat.zero_add, Nat.reduceAdd]
  have hol : o < H.length := (List.getElem?_eq_some_iff.mp h1).1
  have hsl : s < H.length := (List.getElem?_eq_some_iff.mp h2).1
  obtain ⟨I, hI⟩ : ∃ I : Ix, I = ⟨H, H.length + 11, n, o, s, H.length + 4, H.length + 3, H.length + 5, H.length + 10, H.length + 6, H.length + 7, H.length + 8, H.length + 2, H.length + 1, H.length, H.length + 9⟩ := ⟨_, rfl⟩
  have J : IxOk I := by
    subst hI
    exact ⟨by show H.length + 5 ≠ o; lia, by show H.length + 5 ≠ s; lia, by show H.length + 5 ≠ H.length + 2; lia, by show H.length + 2 ≠ o; lia, by show H.length + 2 ≠ s; lia, Nat.le_add_right _ _, Nat.le_add_right _ _, Nat.le_add_right _ _, Nat.le_add_right _ _⟩
  have hIn : H.length + 11 = I.n := by rw [hI]
  rw [hIn]
  refine sp_go_from (I := I) (pi := H.length + 12) (k := 0) (row := 0) (a := 0) (b := 0) g' G' (by kl_some) hv J ?M hr hlen hst (fun bg a b pile k pi row H1 ho m => ?_) (fun e i bg a b pile k pi row H1 h30 ho m => ?_)
  case M =>
    subst hI
    exact ⟨⟨hs_app h0, hs_app h1, hs_app h2, get_appN.trans rfl, get_appN.trans rfl, get_appN.trans rfl, get_appN.trans rfl, get_appN.trans rfl, get_appN.trans rfl, get_app0⟩, get_appN.trans rfl, get_appN.trans rfl, get_appN.trans rfl, ⟨[], get_appN.trans rfl, rfl⟩, get_appN.trans rfl,
      by show H.length + 12 ≠ o; lia, by show H.length + 12 ≠ s; lia, by show H.length + 12 ≠ H.length + 5; lia, by show H.length + 12 ≠ H.length + 2; lia, Ext.refl.app, Nat.le_add_right _ _⟩
  · have c1 : H1[H.length + 1]? = some (.cell (some (.ref (H.length + 2)))) := by have := m.fix.cbg; rw [hI] at this; exact this
    have c2 : H1[H.length]? = some (.cell (some (.ref (H.length + 4)))) := by have := m.fix.chk; rw [hI] at this; exact this
    have k1 : H1[H.length + 4]? = some (.inst 544 (hooksF (.ref (H.length + 3)) (.int 16) (.int 9) (.ref (H.length + 5)))) := by have := m.fix.hook; rw [hI] at this; exact this
    have k2 : H1[H.length + 3]? = some (.dictS (nmD a b)) := by have := m.vals; rw [hI] at this; exact this
    have k3 : H1[H.length + 2]? = some (.list (natV bg)) := by have := m.begun; rw [hI] at this; exact this
    have x1 : Ext [] H H1 := by have := m.ext; rw [hI] at this; exact this
    have dA := @nm_A a b
    have dB := @nm_B a b
    subst ho
    repeat tlg_ne
    refine ev_dict2 (by decide +kernel) ?_
    repeat tlg_ne
    refine ⟨hs_last, ?_⟩
    rw [set_lst]
    repeat tlg_ne
    exact hq _ _ _ x1.app (Nat.le_add_right _ _) x1.1 (hs_app k3) hs_last
  · have c1 : H1[H.length + 1]? = some (.cell (some (.ref (H.length + 2)))) := by have := m.fix.cbg; rw [hI] at this; exact this
    have c2 : H1[H.length]? = some (.cell (some (.ref (H.length + 4)))) := by have := m.fix.chk; rw [hI] at this; exact this
    have k1 : H1[H.length + 4]? = some (.inst 544 (hooksF (.ref (H.length + 3)) (.int 16) (.int 9) (.ref (H.length + 5)))) := by have := m.fix.hook; rw [hI] at this; exact this
    have k2 : H1[H.length + 3]? = some (.dictS (nmD a b)) := by have := m.vals; rw [hI] at this; exact this
    have k3 : H1[H.length + 2]? = some (.list (natV (bg ++ [i]))) := by have := m.begun; rw [hI] at this; exact this
    have x1 : Ext [] H H1 := by have := m.ext; rw [hI] at this; exact this
    have dA := @nm_A a b
    have dB := @nm_B a b
    subst ho
    have g'' : Gd ⟨c'.B, some (.ref e), c'.d⟩ p := g'.next
    refine ev_glob (n_BE g'') (by kernel_rfl) ⟨rfl, rfl, ?_⟩
    refine ex_cons (xs_asgC (n := H.length + 1) ?_ (by kernel_rfl) (by rfl))
    refine ev_uptoG (n := H.length + 2) ?_
    repeat tlg_ne
    refine ⟨rfl, ?_⟩
    repeat tlg_ne
    have e30 : List.take (30 : Int).toNat (natV (bg ++ [i])) = natV bg := by
      show List.take 30 (natV (bg ++ [i])) = natV bg
      unfold natV
      rw [List.map_append, List.take_append_of_le_length (by rw [List.length_map]; lia), List.take_of_length_le (by rw [List.length_map]; lia)]
    refine ⟨_, _, rfl, by decide, k3, by rw [List.length_map, List.length_append]; simp; lia, ⟨_, hs_app c1⟩, ?_⟩
    rw [e30]
    repeat tlg_ne
    refine ev_dict2 (by decide +kernel) ?_
    repeat tlg_ne
    refine ⟨hs_last, ?_⟩
    rw [set_lst]
    repeat tlg_ne
    have hc1 := (List.getElem?_eq_some_iff.mp c1).1
    exact hq _ _ _ ((x1.app.setN (by kl_some)).app) x1.1 (by rw [List.length_set, List.length_append]; have := x1.1; lia) (hs_app (hs_skip (by kl_some) hs_last)) hs_last
end
end
/-! ### S17 -/
/-! the plain law -/
noncomputable def gcor (bf : Rw → Nat → List Od) : Nat → List Rw → List Od
  | _, [] => []
  | i, r :: rs => bf r i ++ gcor bf (i + 1) rs
theorem gcor_cor : ∀ {i : Nat} {rs : List Rw}, cor i rs = gcor blk i rs
  | i, [] => rfl
  | i, r :: rs => by rw [cor, gcor, gcor_cor]
theorem gcor_app (bf : Rw → Nat → List Od) : ∀ {i : Nat} {xs ys : List Rw}, gcor bf i (xs ++ ys) = gcor bf i xs ++ gcor bf (i + xs.length) ys
  | i, [], ys => by simp [gcor]
  | i, x :: xs, ys => by
    rw [List.cons_append, gcor, gcor, gcor_app bf, List.append_assoc, List.length_cons]
    congr 3; lia
noncomputable def gpos (bf : Rw → Nat → List Od) (R : List Rw) (i : Nat) : Nat := (gcor bf 0 (R.take i)).length
noncomputable def gst (bf : Rw → Nat → List Od) (R : List Rw) : List Nat := (List.range R.length).map (gpos bf R)
noncomputable def gcode (bf : Rw → Nat → List Od) (R : List Rw) : List Od := (gcor bf 0 R).map (ledO (gst bf R)) ++ [.fin]
section gen
variable {bf : Rw → Nat → List Od} {R : List Rw}
theorem take_next {i : Nat} {r : Rw} (h : R[i]? = some r) : R.take (i + 1) = R.take i ++ [r] := by rw [List.take_add_one, h]; rfl
theorem gcor_next {i : Nat} {r : Rw} (h : R[i]? = some r) : gcor bf 0 (R.take (i + 1)) = gcor bf 0 (R.take i) ++ bf r i := by
  have hi := (List.getElem?_eq_some_iff.mp h).1
  rw [take_next h, gcor_app, List.length_take, Nat.min_eq_left (by lia), Nat.zero_add]
  simp [gcor]
theorem gpos_next {i : Nat} {r : Rw} (h : R[i]? = some r) : gpos bf R (i + 1) = gpos bf R i + (bf r i).length := by
  unfold gpos; rw [gcor_next h, List.length_append]
theorem gpos_zero : gpos bf R 0 = 0 := by unfold gpos; simp [gcor]
theorem gpos_len : gpos bf R R.length = (gcor bf 0 R).length := by unfold gpos; rw [List.take_length]
theorem gcor_pre {i : Nat} : ∃ t, gcor bf 0 R = gcor bf 0 (R.take i) ++ t := by
  have : R = R.take i ++ R.drop i := (List.take_append_drop i R).symm
  exact ⟨gcor bf (0 + (R.take i).length) (R.drop i), by rw [← gcor_app, ← this]⟩
theorem gst_get {g : Nat} (h : g < R.length) : (gst bf R)[g]? = some (gpos bf R g) := by
  unfold gst; rw [List.getElem?_map, List.getElem?_range h]; rfl
theorem gst_getD {g : Nat} (h : g < R.length) : (gst bf R).getD g 0 = gpos bf R g := by
  rw [List.getD_eq_getElem?_getD, gst_get h]; rfl
theorem gcode_at {i j : Nat} {r : Rw} {o : Od} (h : R[i]? = some r) (hj : (bf r i)[j]? = some o) : (gcode bf R)[gpos bf R i + j]? = some (ledO (gst bf R) o) := by
  obtain ⟨t, ht⟩ := gcor_pre (bf := bf) (R := R) (i := i + 1)
  have hl := (List.getElem?_eq_some_iff.mp hj).1
  have e : (gcor bf 0 R)[gpos bf R i + j]? = some o := by
    rw [ht, gcor_next h, List.append_assoc, List.getElem?_append_right (by unfold gpos; lia)]
    unfold gpos
    rw [Nat.add_sub_cancel_left, List.getElem?_append_left hl, hj]
  unfold gcode
  rw [List.getElem?_append_left (by rw [List.length_map]; exact (List.getElem?_eq_some_iff.mp e).1), List.getElem?_map, e]; rfl
theorem gcode_fin : (gcode bf R)[gpos bf R R.length]? = some .fin := by
  unfold gcode
  rw [gpos_len, List.getElem?_append_right (by rw [List.length_map]; exact Nat.le_refl _), List.length_map, Nat.sub_self]; rfl
theorem gcode_len : (gcode bf R).length = gpos bf R R.length + 1 := by unfold gcode; rw [gpos_len]; simp
theorem gpos_le {i j : Nat} (h : i ≤ j) : gpos bf R i ≤ gpos bf R j := by
  induction j with
  | zero => rw [Nat.le_zero.mp h]; exact Nat.le_refl _
  | succ j ih =>
    rcases Nat.lt_or_ge i (j + 1) with hlt | hge
    · refine Nat.le_trans (ih (by lia)) ?_
      by_cases hj : j < R.length
      · obtain ⟨r, hr⟩ : ∃ r, R[j]? = some r := ⟨_, List.getElem?_eq_getElem hj⟩
        rw [gpos_next hr]; exact Nat.le_add_right _ _
      · unfold gpos
        rw [List.take_of_length_le (by lia), List.take_of_length_le (by lia)]; exact Nat.le_refl _
    · have : i = j + 1 := by lia
      rw [this]; exact Nat.le_refl _
end gen
theorem cst_get : ∀ {i q : Nat} {xs : List Rw} {j : Nat}, j < xs.length → (cst i q xs)[j]? = some (q + (gcor blk i (xs.take j)).length)
  | i, q, [], j, h => by simp at h
  | i, q, x :: xs, 0, h => by simp [cst, gcor]
  | i, q, x :: xs, j + 1, h => by
    rw [cst, List.getElem?_cons_succ, cst_get (by simpa using h), List.take_succ_cons, gcor, List.length_append]
    congr 1; lia
theorem cst_gst {R : List Rw} : cst 0 0 R = gst blk R := by
  apply List.ext_getElem?
  intro j
  by_cases h : j < R.length
  · rw [cst_get h, gst_get h, Nat.zero_add]; rfl
  · rw [List.getElem?_eq_none (by rw [cst_len]; lia), List.getElem?_eq_none (by unfold gst; rw [List.length_map, List.length_range]; lia)]
theorem compO_gcode {R : List Rw} : compO R = gcode blk R := by unfold compO gcode; rw [cst_gst, gcor_cor]
/-! ends of chains -/
noncomputable def En (os : List Od) (x e : Nat) : Prop := Chain os x e ∧ ∀ u, os[e]? ≠ some (.go u)
theorem chain_det {os : List Od} {x a e : Nat} (h : Chain os x a) (n : En os x e) : Chain os a e := by
  induction h with
  | refl => exact n.1
  | step h _ ih =>
    refine ih ⟨?_, n.2⟩
    cases n.1 with
    | refl => exact absurd h (n.2 _)
    | step h' c => rw [h] at h'; cases h'; exact c
theorem lg_end {os : List Od} {x r e : Nat} (h : Lg os x r) (n : En os x e) : r = e := by
  have c := chain_det h.1 n
  have nr : ∀ u, os[r]? ≠ some (.go u) := fun u hu => by
    obtain ⟨u', e'⟩ := h.2.2 ⟨u, hu⟩ e c
    exact n.2 _ e'
  cases c with
  | refl => rfl
  | step h' _ => exact absurd h' (nr _)
/-! the machine walks as the rows do -/
noncomputable def At (os : List Od) (q : Nat) (l : List Od) : Prop := ∀ j o, l[j]? = some o → os[q + j]? = some o
theorem At.h0 {os : List Od} {q : Nat} {x : Od} {l : List Od} (h : At os q (x :: l)) : os[q]? = some x := h 0 x rfl
theorem At.tl {os : List Od} {q : Nat} {x : Od} {l : List Od} (h : At os q (x :: l)) : At os (q + 1) l := fun j o e => by
  have := h (j + 1) o e
  rw [show q + 1 + j = q + (j + 1) by lia]; exact this
/-- t is where a jump to the row g may lead -/
noncomputable def Jt (os' : List Od) (pos : Nat → Nat) (g t : Nat) : Prop := t = pos g ∨ Lg os' (pos g) t
noncomputable def Bk (os os' : List Od) (pos : Nat → Nat) (i : Nat) : Rw → Prop
  | .let_ b k => At os (pos i) [.row i, .var, .push k, .add, .store b] ∧ pos (i + 1) = pos i + 5
  | .less k g => ∃ t, Jt os' pos g t ∧ At os (pos i) [.row i, .var, .push (4 * (k : Int)), .lt, .tst t] ∧ pos (i + 1) = pos i + 5
  | .known k g => (∃ t, Jt os' pos g t ∧ At os (pos i) [.row i, .push k, .tst t] ∧ pos (i + 1) = pos i + 3) ∨ (k ≠ 0 ∧ At os (pos i) [.row i] ∧ pos (i + 1) = pos i + 1) ∨ (k = 0 ∧ ∃ t, Jt os' pos g t ∧ At os (pos i) [.row i, .go t] ∧ pos (i + 1) = pos i + 2)
  | .jump g => ∃ t, Jt os' pos g t ∧ At os (pos i) [.go t]
  | .goto g => ∃ t, Jt os' pos g t ∧ At os (pos i) [.row i, .go t]
  | .rem => At os (pos i) [.row i] ∧ pos (i + 1) = pos i + 1
structure Sim (os os' : List Od) (R : List Rw) (pos : Nat → Nat) : Prop where
  blk : ∀ i r, R[i]? = some r → Bk os os' pos i r
  fin : os[pos R.length]? = some .fin
  bj : ∀ (i g : Nat), R[i]? = some (Rw.jump g) → os'[pos i]? = some (.go (pos g))
  bn : ∀ (i : Nat) (r : Rw), R[i]? = some r → (∀ g, r ≠ .jump g) → ∀ u, os'[pos i]? ≠ some (.go u)
  bf : ∀ u, os'[pos R.length]? ≠ some (.go u)
theorem goal_le {r : Rw} {n i : Nat} {a : Int} (h : r.Ok n) (hi : i ≤ n) : nxt r i a ≤ n + 1 := by
  cases r <;> simp only [nxt, Rw.Ok] at h ⊢ <;> (try split) <;> lia
theorem walk_end {os os' : List Od} {R : List Rw} {pos : Nat → Nat} (S : Sim os os' R pos) (hok : ∀ r ∈ R, r.Ok (R.length - 1)) {i idle : Nat} {bg : List Nat} {a b : Int} {o : List Nat × Int × Int × Bool} (h : Wk R i idle bg a b o) (hz : o.2.2.2 = false) (hi : i ≤ R.length) : ∃ e, En os' (pos i) e := by
  induction h with
  | @out i idle bg a b hn =>
    simp only [decide_eq_false_iff_not] at hz
    have : i = R.length := by lia
    subst this
    exact ⟨_, .refl, S.bf⟩
  | full hr _ hj _ => exact ⟨_, .refl, S.bn _ _ hr hj⟩
  | @jump i idle g bg a b o hr hid hw ih =>
    have hg : g ≤ R.length - 1 := hok _ (List.mem_of_getElem? hr)
    obtain ⟨e, he⟩ := ih hz (by lia)
    exact ⟨e, .step (S.bj _ _ hr) he.1, he.2⟩
  | row hr _ hj _ _ _ => exact ⟨_, .refl, S.bn _ _ hr hj⟩
theorem sim_run {os os' : List Od} {R : List Rw} {pos : Nat → Nat} (S : Sim os os' R pos) (hok : ∀ r ∈ R, r.Ok (R.length - 1)) {i idle : Nat} {bg : List Nat} {a b : Int} {o : List Nat × Int × Int × Bool} (h : Wk R i idle bg a b o) (hz : o.2.2.2 = false) :
    ∀ (k p : Nat), i ≤ R.length → 0 ≤ a → a ≤ 2 * bg.length → bg.length ≤ 30 → k ≤ bg.length → (p = pos i ∨ En os' (pos i) p) → ∃ n, Rn os n p [] bg k a b (o.1, o.2.1, o.2.2.1) := by
  induction h with
  | @out i idle bg a b hn =>
    intro k p hi _ _ _ _ hp
    simp only [decide_eq_false_iff_not] at hz
    have : i = R.length := by lia
    subst this
    have hp' : p = pos R.length := by
      rcases hp with hp | hp
      · exact hp
      · cases hp.1 with
        | refl => rfl
        | step h _ => exact absurd h (S.bf _)
    subst hp'
    exact ⟨0, .fin S.fin⟩
  | @full i idle bg a b r hr hid hj h30 =>
    intro k p hi _ _ _ _ hp
    have hp' : p = pos i := by
      rcases hp with hp | hp
      · exact hp
      · cases hp.1 with
        | refl => rfl
        | step h _ => exact absurd h (S.bn _ _ hr hj _)
    subst hp'
    have hb := S.blk _ _ hr
    have : os[pos i]? = some (.row i) := by
      cases r with
      | let_ _ _ => exact hb.1.h0
      | less _ _ => obtain ⟨t, _, h, _⟩ := hb; exact h.h0
      | known _ _ => rcases hb with ⟨t, _, h, _⟩ | ⟨_, h, _⟩ | ⟨_, t, _, h, _⟩ <;> exact h.h0
      | jump g => exact absurd rfl (hj g)
      | goto _ => obtain ⟨t, _, h⟩ := hb; exact h.h0
      | rem => exact hb.1.h0
    exact ⟨0, .stop this h30⟩
  | @jump i idle g bg a b o hr hid hw ih =>
    intro k p hi h1 h2 h3 h4 hp
    have hg : g ≤ R.length - 1 := hok _ (List.mem_of_getElem? hr)
    have hi' := (List.getElem?_eq_some_iff.mp hr).1
    obtain ⟨e, he⟩ := walk_end S hok hw hz (by lia)
    obtain ⟨t, ht, hat⟩ := S.blk _ _ hr
    rcases hp with rfl | hp
    · have htg : t = pos g ∨ En os' (pos g) t := ht.imp id fun hl => by rw [lg_end hl he]; exact he
      obtain ⟨n, hn⟩ := ih hz k t (by lia) h1 h2 h3 h4 htg
      exact ⟨n + 1, .go hat.h0 hn⟩
    · refine ih hz k p (by lia) h1 h2 h3 h4 (.inr ⟨?_, hp.2⟩)
      cases hp.1 with
      | refl => exact absurd (S.bj _ _ hr) (hp.2 _)
      | step h c => rw [S.bj _ _ hr] at h; cases h; exact c
  | @row i idle bg a b r o hr hid hj hf hw ih =>
    intro k p hi h1 h2 h3 h4 hp
    have hp' : p = pos i := by
      rcases hp with hp | hp
      · exact hp
      · cases hp.1 with
        | refl => rfl
        | step h _ => exact absurd h (S.bn _ _ hr hj _)
    subst hp'
    have hi' := (List.getElem?_eq_some_iff.mp hr).1
    have hok' := hok _ (List.mem_of_getElem? hr)
    have hnx : nxt r i a ≤ R.length := by have := goal_le (a := a) hok' (show i ≤ R.length - 1 by lia); lia
    have hlen : (bg ++ [i]).length = bg.length + 1 := by simp
    have hlt : bg.length < 30 := by lia
    have key : ∀ (k p : Nat), k ≤ bg.length + 1 → 0 ≤ newA r a → newA r a ≤ 2 * (bg.length + 1 : Nat) → (p = pos (nxt r i a) ∨ En os' (pos (nxt r i a)) p) → ∃ n, Rn os n p [] (bg ++ [i]) k (newA r a) (newB r a b) (o.1, o.2.1, o.2.2.1) := fun k p hk ha hb hp =>
      ih hz k p hnx ha (by rw [hlen]; exact hb) (by lia) (by lia) hp
    have tgt : ∀ {g t : Nat}, nxt r i a = g → Jt os' pos g t → (t = pos (nxt r i a) ∨ En os' (pos (nxt r i a)) t) := fun e ht => by
      subst e
      obtain ⟨e, he⟩ := walk_end S hok hw hz hnx
      exact ht.imp id fun hl => by rw [lg_end hl he]; exact he
    have hb := S.blk _ _ hr
    cases r with
    | let_ s ad =>
      obtain ⟨hat, hpos⟩ := hb
      have had : ad ≤ 2 := hok'
      cases s
      · obtain ⟨n, hn⟩ := key (k + 1) (pos (i + 1)) (by lia) (by show 0 ≤ a + ad; lia) (by show a + (ad : Int) ≤ _; lia) (.inl rfl)
        rw [hpos] at hn
        exact ⟨_, .row hat.h0 hlt (.var hat.tl.h0 (by lia) (by simp) (.push hat.tl.tl.h0 (by simp) (.add (ps := []) hat.tl.tl.tl.h0 (by simp) (by lia) (by lia) (.store (ps := []) hat.tl.tl.tl.tl.h0 (by simp) hn))))⟩
      · obtain ⟨n, hn⟩ := key (k + 1) (pos (i + 1)) (by lia) h1 (by show a ≤ _; lia) (.inl rfl)
        rw [hpos] at hn
        exact ⟨_, .row hat.h0 hlt (.var hat.tl.h0 (by lia) (by simp) (.push hat.tl.tl.h0 (by simp) (.add (ps := []) hat.tl.tl.tl.h0 (by simp) (by lia) (by lia) (.store (ps := []) hat.tl.tl.tl.tl.h0 (by simp) hn))))⟩
    | less ad gl =>
      obtain ⟨t, ht, hat, hpos⟩ := hb
      by_cases hc : a < 4 * (ad : Int)
      · have e : nxt (.less ad gl) i a = i + 1 := if_pos hc
        obtain ⟨n, hn⟩ := key (k + 1) (pos (i + 1)) (by lia) h1 (by show a ≤ _; lia) (.inl (by rw [e]))
        rw [hpos] at hn
        exact ⟨_, .row hat.h0 hlt (.var hat.tl.h0 (by lia) (by simp) (.push hat.tl.tl.h0 (by simp) (.lt (ps := []) hat.tl.tl.tl.h0 (by simp) (.tst (ps := []) hat.tl.tl.tl.tl.h0 (by simp) (by rw [if_pos hc, if_neg (by decide)]; exact hn)))))⟩
      · have e : nxt (.less ad gl) i a = gl := if_neg hc
        obtain ⟨n, hn⟩ := key (k + 1) t (by lia) h1 (by show a ≤ _; lia) (tgt e ht)
        exact ⟨_, .row hat.h0 hlt (.var hat.tl.h0 (by lia) (by simp) (.push hat.tl.tl.h0 (by simp) (.lt (ps := []) hat.tl.tl.tl.h0 (by simp) (.tst (ps := []) hat.tl.tl.tl.tl.h0 (by simp) (by rw [if_neg hc, if_pos rfl]; exact hn)))))⟩
    | known ad gl =>
      rcases hb with ⟨t, ht, hat, hpos⟩ | ⟨hne, hat, hpos⟩ | ⟨h0, t, ht, hat, hpos⟩
      · by_cases hc : ad = 0
        · have e : nxt (.known ad gl) i a = gl := if_pos hc
          obtain ⟨n, hn⟩ := key k t (by lia) h1 (by show a ≤ _; lia) (tgt e ht)
          exact ⟨_, .row hat.h0 hlt (.push hat.tl.h0 (by simp) (.tst (ps := []) hat.tl.tl.h0 (by simp) (by rw [if_pos (by lia)]; exact hn)))⟩
        · have e : nxt (.known ad gl) i a = i + 1 := if_neg hc
          obtain ⟨n, hn⟩ := key k (pos (i + 1)) (by lia) h1 (by show a ≤ _; lia) (.inl (by rw [e]))
          rw [hpos] at hn
          exact ⟨_, .row hat.h0 hlt (.push hat.tl.h0 (by simp) (.tst (ps := []) hat.tl.tl.h0 (by simp) (by rw [if_neg (by lia)]; exact hn)))⟩
      · have e : nxt (.known ad gl) i a = i + 1 := if_neg hne
        obtain ⟨n, hn⟩ := key k (pos (i + 1)) (by lia) h1 (by show a ≤ _; lia) (.inl (by rw [e]))
        rw [hpos] at hn
        exact ⟨_, .row hat.h0 hlt hn⟩
      · have e : nxt (.known ad gl) i a = gl := if_pos h0
        obtain ⟨n, hn⟩ := key k t (by lia) h1 (by show a ≤ _; lia) (tgt e ht)
        exact ⟨_, .row hat.h0 hlt (.go hat.tl.h0 hn)⟩
    | jump g => exact absurd rfl (hj g)
    | goto gl =>
      obtain ⟨t, ht, hat⟩ := hb
      obtain ⟨n, hn⟩ := key k t (by lia) h1 (by show a ≤ _; lia) (tgt rfl ht)
      exact ⟨_, .row hat.h0 hlt (.go hat.tl.h0 hn)⟩
    | rem =>
      obtain ⟨hat, hpos⟩ := hb
      obtain ⟨n, hn⟩ := key k (pos (i + 1)) (by lia) h1 (by show a ≤ _; lia) (.inl rfl)
      rw [hpos] at hn
      exact ⟨_, .row hat.h0 hlt hn⟩
/-! ### S18 -/
/-! known_tests, blockwise -/
noncomputable def kbl : Rw → Nat → List Od
  | .known k g, i => if k = 0 then [.row i, .go g] else [.row i]
  | r, i => blk r i
noncomputable def GoalsOk (bf : Rw → Nat → List Od) (R : List Rw) : Prop := ∀ g, Od.go g ∈ gcor bf 0 R ∨ Od.tst g ∈ gcor bf 0 R → g < R.length
theorem gcor_goal {bf : Rw → Nat → List Od} {n t : Nat} (hb : ∀ (r : Rw) (i : Nat), r.Ok n → (Od.go t ∈ bf r i ∨ Od.tst t ∈ bf r i) → t ≤ n) : ∀ {i : Nat} {rows : List Rw}, (∀ r ∈ rows, r.Ok n) → (Od.go t ∈ gcor bf i rows ∨ Od.tst t ∈ gcor bf i rows) → t ≤ n
  | i, [], h, ht => by simp [gcor] at ht
  | i, r :: rs, h, ht => by
    rw [gcor, List.mem_append, List.mem_append] at ht
    rcases ht with (ht | ht) | (ht | ht)
    · exact hb r i (h r (.head _)) (.inl ht)
    · exact gcor_goal hb (fun q hq => h q (.tail _ hq)) (.inl ht)
    · exact hb r i (h r (.head _)) (.inr ht)
    · exact gcor_goal hb (fun q hq => h q (.tail _ hq)) (.inr ht)
theorem kbl_goal {r : Rw} {i n t : Nat} (h : r.Ok n) (ht : Od.go t ∈ kbl r i ∨ Od.tst t ∈ kbl r i) : t ≤ n := by
  cases r with
  | known k g =>
    have e : kbl (.known k g) i = if k = 0 then [.row i, .go g] else [.row i] := rfl
    rw [e] at ht
    split at ht
    · simp at ht; subst ht; exact h.2
    · simp at ht
  | _ => exact blk_goal (i := i) h ht
theorem goals_blk {R : List Rw} (hN : 1 ≤ R.length) (hok : ∀ r ∈ R, r.Ok (R.length - 1)) : GoalsOk blk R := fun g hg => by
  have := gcor_goal (bf := blk) (n := R.length - 1) (fun r i h t => blk_goal h t) hok hg
  lia
theorem goals_kbl {R : List Rw} (hN : 1 ≤ R.length) (hok : ∀ r ∈ R, r.Ok (R.length - 1)) : GoalsOk kbl R := fun g hg => by
  have := gcor_goal (bf := kbl) (n := R.length - 1) (fun r i h t => kbl_goal h t) hok hg
  lia
section
variable {bf : Rw → Nat → List Od} {R : List Rw}
theorem gcode_InR (hg : GoalsOk bf R) : InR (gcode bf R) := fun t ht => by
  have key : ∀ g, g < R.length → (gst bf R).getD g 0 < (gcode bf R).length := fun g h => by
    rw [gst_getD h, gcode_len]
    exact Nat.lt_succ_of_le (gpos_le (Nat.le_of_lt h))
  unfold gcode at ht
  simp only [List.mem_append, List.mem_map, List.mem_singleton, reduceCtorEq, or_false] at ht
  rcases ht with ⟨o, ho, e⟩ | ⟨o, ho, e⟩
  · cases o <;> simp only [ledO, reduceCtorEq, Od.go.injEq] at e
    subst e; exact key _ (hg _ (.inl ho))
  · cases o <;> simp only [ledO, reduceCtorEq, Od.tst.injEq] at e
    subst e; exact key _ (hg _ (.inr ho))
theorem gst_lt : ∀ t ∈ gst bf R, t < (gcode bf R).length := fun t ht => by
  unfold gst at ht
  obtain ⟨i, hi, rfl⟩ := List.mem_map.mp ht
  rw [List.mem_range] at hi
  rw [gcode_len]
  exact Nat.lt_succ_of_le (gpos_le (Nat.le_of_lt hi))
theorem gst_cons (hN : 1 ≤ R.length) : ∃ t, gst bf R = 0 :: t ∧ t.length + 1 = R.length := by
  obtain ⟨n, hn⟩ : ∃ n, R.length = n + 1 := ⟨R.length - 1, by lia⟩
  unfold gst
  rw [hn, List.range_succ_eq_map, List.map_cons, gpos_zero]
  exact ⟨_, rfl, by simp⟩
theorem gcode_At {i : Nat} {r : Rw} (h : R[i]? = some r) : At (gcode bf R) (gpos bf R i) ((bf r i).map (ledO (gst bf R))) := fun j o e => by
  rw [List.getElem?_map] at e
  obtain ⟨o', e', rfl⟩ := Option.map_eq_some_iff.mp e
  exact gcode_at h e'
end
theorem KS.inv_keep {P : Nat → Prop} {os : List Od} {i : Nat} {F' : List Od} {L' : List Nat} {o : Od} (h : KS P os (i + 1) F' L') (ho : os[i]? = some o) (hn : ∀ t, o ≠ .tst t) : ∃ F L, KS P os i F L ∧ F' = F ++ [o] ∧ L' = L ++ [F.length] := by
  cases h with
  | keep k e _ => rw [ho] at e; cases e; exact ⟨_, _, k, rfl, rfl⟩
  | held k e _ _ => rw [ho] at e; cases e; exact absurd rfl (hn _)
  | goes k e _ _ => rw [ho] at e; cases e; exact absurd rfl (hn _)
theorem KS.inv_list {P : Nat → Prop} {os : List Od} {i : Nat} : ∀ (n : Nat) (l : List Od), l.length = n → (∀ o ∈ l, ∀ t, o ≠ .tst t) → At os i l → ∀ {F' : List Od} {L' : List Nat}, KS P os (i + n) F' L' → ∃ F L M, KS P os i F L ∧ F' = F ++ l ∧ L' = L ++ M ∧ M.length = n ∧ (l ≠ [] → M[0]? = some F.length) := by
  intro n
  induction n with
  | zero =>
    intro l hl _ _ F' L' h
    have : l = [] := List.eq_nil_of_length_eq_zero hl
    subst this
    exact ⟨F', L', [], h, by simp, by simp, rfl, fun z => absurd rfl z⟩
  | succ n ih =>
    intro l hl hn hat F' L' h
    rcases List.eq_nil_or_concat l with rfl | ⟨l', o, rfl⟩
    · simp at hl
    · rw [List.concat_eq_append] at *
      have hl' : l'.length = n := by simpa using hl
      have ho : os[i + n]? = some o := hat n o (by rw [← hl']; simp)
      obtain ⟨F1, L1, k1, e1, e2⟩ := KS.inv_keep (i := i + n) h ho (hn o (by simp))
      obtain ⟨F, L, M, k, e3, e4, e5, e6⟩ := ih l' hl' (fun q hq => hn q (List.mem_append_left _ hq)) (fun j q hq => hat j q (by rw [List.getElem?_append_left (List.getElem?_eq_some_iff.mp hq).1]; exact hq)) k1
      refine ⟨F, L, M ++ [F1.length], k, by rw [e1, e3, List.append_assoc], by rw [e2, e4, List.append_assoc], by simp [e5], fun _ => ?_⟩
      cases hM : l' with
      | nil =>
        subst hM
        have : M = [] := List.eq_nil_of_length_eq_zero (by rw [e5]; simpa using hl'.symm)
        subst this
        rw [e3]; simp
      | cons x t =>
        have := e6 (by rw [hM]; simp)
        rw [List.getElem?_append_left (List.getElem?_eq_some_iff.mp this).1]; exact this
section
variable {R : List Rw} {P : Nat → Prop}
noncomputable abbrev o1 (R : List Rw) : List Od := gcode blk R
noncomputable abbrev l1 (R : List Rw) : Od → Od := ledO (gst blk R)
noncomputable abbrev Bkk (R : List Rw) (i : Nat) (F : List Od) (L : List Nat) : Prop := F = (gcor kbl 0 (R.take i)).map (l1 R) ∧ L.length = gpos blk R i ∧ ∀ j, j < i → L[gpos blk R j]? = some (gpos kbl R j)
theorem ks_blocks (hP : ∀ q, P q → q ∈ gst blk R) : ∀ (i : Nat), i ≤ R.length → ∀ {F : List Od} {L : List Nat}, KS P (o1 R) (gpos blk R i) F L → Bkk R i F L := by
  intro i
  induction i with
  | zero =>
    intro _ F L h
    rw [gpos_zero] at h
    cases h
    exact ⟨by simp [gcor], by rw [gpos_zero]; rfl, fun j hj => absurd hj (Nat.not_lt_zero _)⟩
  | succ i ih =>
    intro hi F' L' h
    obtain ⟨r, hr⟩ : ∃ r, R[i]? = some r := ⟨_, List.getElem?_eq_getElem (by lia)⟩
    have hat := gcode_At (bf := blk) hr
    have hnx := gpos_next (bf := blk) hr
    rw [hnx] at h
    have close : ∀ (F : List Od) (L M : List Nat) (G : List Od), KS P (o1 R) (gpos blk R i) F L → F' = F ++ G → G = (kbl r i).map (l1 R) → L' = L ++ M → M.length = (blk r i).length → M[0]? = some F.length → Bkk R (i + 1) F' L' := by
      intro F L M G k e1 e2 e3 e4 e5
      obtain ⟨f1, f2, f3⟩ := ih (by lia) k
      refine ⟨by rw [e1, f1, e2, gcor_next hr, List.map_append], by rw [e3, List.length_append, f2, e4, hnx], fun j hj => ?_⟩
      by_cases hji : j < i
      · rw [e3, List.getElem?_append_left (List.getElem?_eq_some_iff.mp (f3 j hji)).1]; exact f3 j hji
      · have : j = i := by lia
        subst this
        rw [e3, List.getElem?_append_right (by lia), f2, Nat.sub_self, e5, f1, List.length_map]; rfl
    have plain : (∀ o ∈ (blk r i).map (l1 R), ∀ t, o ≠ .tst t) → blk r i ≠ [] → kbl r i = blk r i → Bkk R (i + 1) F' L' := by
      intro hn hne hk
      obtain ⟨F, L, M, k, e1, e2, e3, e4⟩ := KS.inv_list (i := gpos blk R i) (blk r i).length ((blk r i).map (l1 R)) (by simp) hn hat h
      exact close F L M _ k e1 (by rw [hk]) e2 e3 (e4 (by simpa using hne))
    cases r with
    | let_ b k => exact plain (by simp [blk, ledO]) (by simp [blk]) rfl
    | jump g => exact plain (by simp [blk, ledO]) (by simp [blk]) rfl
    | goto g => exact plain (by simp [blk, ledO]) (by simp [blk]) rfl
    | rem => exact plain (by simp [blk, ledO]) (by simp [blk]) rfl
    | less k g =>
      obtain ⟨t, ht⟩ : ∃ t, l1 R (.tst g) = .tst t := ⟨_, rfl⟩
      have hlast : (o1 R)[gpos blk R i + 4]? = some (.tst t) := hat 4 _ (by rw [← ht]; rfl)
      have hat4 : At (o1 R) (gpos blk R i) [.row i, .var, .push (4 * (k : Int)), .lt] := fun j o e => hat j o (by
        have hj : j < 4 := (List.getElem?_eq_some_iff.mp e).1
        rw [show (blk (.less k g) i).map (l1 R) = [.row i, .var, .push (4 * (k : Int)), .lt] ++ [l1 R (.tst g)] from rfl, List.getElem?_append_left hj]; exact e)
      have fin : ∀ {F1 : List Od} {L1 : List Nat}, KS P (o1 R) (gpos blk R i + 4) F1 L1 → F' = F1 ++ [.tst t] → L' = L1 ++ [F1.length] → Bkk R (i + 1) F' L' := fun {F1 L1} k1 e1 e2 => by
        obtain ⟨F, L, M, k2, e3, e4, e5, e6⟩ := KS.inv_list (i := gpos blk R i) 4 [.row i, .var, .push (4 * (k : Int)), .lt] rfl (by simp) hat4 k1
        have hM0 := e6 (by simp)
        exact close F L (M ++ [F1.length]) ([.row i, .var, .push (4 * (k : Int)), .lt] ++ [.tst t]) k2 (by rw [e1, e3, List.append_assoc]) (by rw [← ht]; rfl) (by rw [e2, e4, List.append_assoc]) (by simp [e5, blk]) (by rw [List.getElem?_append_left (List.getElem?_eq_some_iff.mp hM0).1]; exact hM0)
      have nolast : ∀ {F1 : List Od} {L1 : List Nat} {v : Int}, KS P (o1 R) (gpos blk R i + 4) (F1 ++ [.push v]) L1 → False := fun {F1 L1 v} k1 => by
        obtain ⟨F, L, M, k2, e3, _⟩ := KS.inv_list (i := gpos blk R i) 4 [.row i, .var, .push (4 * (k : Int)), .lt] rfl (by simp) hat4 k1
        have : F1 ++ [Od.push v] = (F ++ [.row i, .var, .push (4 * (k : Int))]) ++ [.lt] := by rw [e3]; simp
        exact absurd (List.append_inj' this rfl).2 (by simp)
      cases h with
      | keep k1 e _ =>
        have e' := hlast.symm.trans e
        cases e'
        exact fin k1 rfl rfl
      | held k1 e _ _ => exact (nolast k1).elim
      | goes k1 e _ _ => exact (nolast k1).elim
    | known k g =>
      obtain ⟨t, ht⟩ : ∃ t, l1 R (.tst g) = .tst t := ⟨_, rfl⟩
      have ht' : l1 R (.go g) = .go t := by cases ht; rfl
      have hlast : (o1 R)[gpos blk R i + 2]? = some (.tst t) := hat 2 _ (by rw [← ht]; rfl)
      have hat2 : At (o1 R) (gpos blk R i) [.row i, .push (k : Int)] := fun j o e => hat j o (by
        have hj : j < 2 := (List.getElem?_eq_some_iff.mp e).1
        rw [show (blk (.known k g) i).map (l1 R) = [.row i, .push (k : Int)] ++ [l1 R (.tst g)] from rfl, List.getElem?_append_left hj]; exact e)
      have hnP : ¬ P (gpos blk R i + 2) := fun hp => by
        have := hP _ hp
        unfold gst at this
        obtain ⟨j, hj, e⟩ := List.mem_map.mp this
        rcases Nat.lt_or_ge i j with hij | hij
        · have h1 := gpos_le (bf := blk) (R := R) (show i + 1 ≤ j from hij)
          rw [hnx, e] at h1
          have : (blk (.known k g) i).length = 3 := rfl
          lia
        · have h1 := gpos_le (bf := blk) (R := R) hij
          lia
      have inv : ∀ {F1 : List Od} {L1 : List Nat}, KS P (o1 R) (gpos blk R i + 2) F1 L1 → ∃ F L M, KS P (o1 R) (gpos blk R i) F L ∧ F1 = F ++ [.row i, .push (k : Int)] ∧ L1 = L ++ M ∧ M.length = 2 ∧ M[0]? = some F.length := fun k1 => by
        obtain ⟨F, L, M, k2, e3, e4, e5, e6⟩ := KS.inv_list (i := gpos blk R i) 2 [.row i, .push (k : Int)] rfl (by simp) hat2 k1
        exact ⟨F, L, M, k2, e3, e4, e5, e6 (by simp)⟩
      cases h with
      | keep k1 e hc =>
        have e' := hlast.symm.trans e
        cases e'
        obtain ⟨F, L, M, k2, e3, _⟩ := inv k1
        exact absurd (hc t (F ++ [.row i]) k rfl (by rw [e3]; simp)) hnP
      | held k1 e hnp hk0 =>
        obtain ⟨F, L, M, k2, e3, e4, e5, e6⟩ := inv k1
        rw [show F ++ [Od.row i, .push (k : Int)] = (F ++ [.row i]) ++ [.push (k : Int)] by simp] at e3
        obtain ⟨f1, f2⟩ := List.append_inj' e3 rfl
        cases f2
        have hk' : k ≠ 0 := by lia
        exact close F L (M ++ [F'.length]) [.row i] k2 f1 (by rw [show kbl (.known k g) i = [.row i] from if_neg hk']; rfl) (by rw [e4, List.append_assoc]) (by simp [e5, blk]) (by rw [List.getElem?_append_left (List.getElem?_eq_some_iff.mp e6).1]; exact e6)
      | @goes _ t' F1 _ _ k1 e hnp hk0 =>
        have e' := hlast.symm.trans e
        cases e'
        obtain ⟨F, L, M, k2, e3, e4, e5, e6⟩ := inv k1
        rw [show F ++ [Od.row i, .push (k : Int)] = (F ++ [.row i]) ++ [.push (k : Int)] by simp] at e3
        obtain ⟨f1, f2⟩ := List.append_inj' e3 rfl
        cases f2
        have hk' : k = 0 := by lia
        exact close F L (M ++ [F1.length]) ([.row i] ++ [.go t]) k2 (by rw [f1, List.append_assoc]) (by rw [show kbl (.known k g) i = [.row i, .go g] from if_pos hk', ← ht']; rfl) (by rw [e4, List.append_assoc]) (by simp [e5, blk]) (by rw [List.getElem?_append_left (List.getElem?_eq_some_iff.mp e6).1]; exact e6)
end
/-! ### S19 -/
section
variable {R : List Rw}
theorem At.mono {os : List Od} {q : Nat} {l l' : List Od} (h : At os q l) (e : l = l') : At os q l' := e ▸ h
theorem l_tst {bf : Rw → Nat → List Od} {g : Nat} (h : g < R.length) : ledO (gst bf R) (.tst g) = .tst (gpos bf R g) := by show Od.tst _ = _; rw [gst_getD h]
theorem l_go {bf : Rw → Nat → List Od} {g : Nat} (h : g < R.length) : ledO (gst bf R) (.go g) = .go (gpos bf R g) := by show Od.go _ = _; rw [gst_getD h]
/-- the heads of the blocks -/
theorem base_jump {bf : Rw → Nat → List Od} (hbf : ∀ g i, bf (.jump g) i = [.go g]) (hN : 1 ≤ R.length) (hok : ∀ r ∈ R, r.Ok (R.length - 1)) (i g : Nat) (h : R[i]? = some (.jump g)) : (gcode bf R)[gpos bf R i]? = some (.go (gpos bf R g)) := by
  have hg : g ≤ R.length - 1 := hok _ (List.mem_of_getElem? h)
  have := gcode_at (bf := bf) (j := 0) h (by rw [hbf]; rfl)
  rw [l_go (by lia)] at this
  exact this
theorem base_row {bf : Rw → Nat → List Od} (hbf : ∀ r i, (∀ g, r ≠ .jump g) → (bf r i)[0]? = some (.row i)) (i : Nat) (r : Rw) (h : R[i]? = some r) (hj : ∀ g, r ≠ .jump g) : ∀ u, (gcode bf R)[gpos bf R i]? ≠ some (.go u) := fun u hu => by
  have := gcode_at (bf := bf) (j := 0) h (hbf r i hj)
  rw [Nat.add_zero, hu] at this
  cases this
theorem base_fin {bf : Rw → Nat → List Od} : ∀ u, (gcode bf R)[gpos bf R R.length]? ≠ some (.go u) := fun u hu => by
  rw [gcode_fin] at hu; cases hu
theorem blk_row : ∀ (r : Rw) (i : Nat), (∀ g, r ≠ .jump g) → (blk r i)[0]? = some (.row i) := fun r i h => by
  cases r <;> first | rfl | exact absurd rfl (h _)
theorem kbl_row : ∀ (r : Rw) (i : Nat), (∀ g, r ≠ .jump g) → (kbl r i)[0]? = some (.row i) := fun r i h => by
  cases r with
  | known k g =>
    have e : kbl (.known k g) i = if k = 0 then [.row i, .go g] else [.row i] := rfl
    rw [e]; split <;> rfl
  | jump g => exact absurd rfl (h g)
  | _ => rfl
theorem sim_comp (hN : 1 ≤ R.length) (hok : ∀ r ∈ R, r.Ok (R.length - 1)) : Sim (gcode blk R) (gcode blk R) R (gpos blk R) := by
  refine ⟨fun i r h => ?_, gcode_fin, base_jump (fun _ _ => rfl) hN hok, base_row blk_row, base_fin⟩
  have hat := gcode_At (bf := blk) h
  have hnx := gpos_next (bf := blk) h
  have hk := hok _ (List.mem_of_getElem? h)
  cases r with
  | let_ b k => exact ⟨hat, hnx⟩
  | less k g =>
    have hg : g ≤ R.length - 1 := hk.2
    exact ⟨_, .inl rfl, hat.mono (by simp only [blk, List.map_cons, List.map_nil, l_tst (bf := blk) (show g < R.length by lia)]; rfl), hnx⟩
  | known k g =>
    have hg : g ≤ R.length - 1 := hk.2
    exact .inl ⟨_, .inl rfl, hat.mono (by simp only [blk, List.map_cons, List.map_nil, l_tst (bf := blk) (show g < R.length by lia)]; rfl), hnx⟩
  | jump g =>
    have hg : g ≤ R.length - 1 := hk
    exact ⟨_, .inl rfl, hat.mono (by simp only [blk, List.map_cons, List.map_nil, l_go (bf := blk) (show g < R.length by lia)])⟩
  | goto g =>
    have hg : g ≤ R.length - 1 := hk
    exact ⟨_, .inl rfl, hat.mono (by simp only [blk, List.map_cons, List.map_nil, l_go (bf := blk) (show g < R.length by lia)]; rfl)⟩
  | rem => exact ⟨hat, hnx⟩
theorem thr_at {os os' : List Od} (h : Thrs os os.length os') {q : Nat} {o : Od} (e : os[q]? = some o) : ∃ o', os'[q]? = some o' ∧ Thr os o o' := h.2 q o (List.getElem?_eq_some_iff.mp e).1 e
theorem thr_same {os os' : List Od} (h : Thrs os os.length os') {q : Nat} {o : Od} (e : os[q]? = some o) (h1 : ∀ t, o ≠ .go t) (h2 : ∀ t, o ≠ .tst t) : os'[q]? = some o := by
  obtain ⟨o', e', t⟩ := thr_at h e
  cases o <;> first | (rw [e', show o' = _ from t]) | exact absurd rfl (h1 _) | exact absurd rfl (h2 _)
theorem thr_go {os os' : List Od} (h : Thrs os os.length os') {q t : Nat} (e : os[q]? = some (.go t)) : ∃ r, os'[q]? = some (.go r) ∧ Lg os t r := by
  obtain ⟨o', e', r, rfl, hl⟩ := thr_at h e
  exact ⟨r, e', hl⟩
theorem thr_tst {os os' : List Od} (h : Thrs os os.length os') {q t : Nat} (e : os[q]? = some (.tst t)) : ∃ r, os'[q]? = some (.tst r) ∧ Lg os t r := by
  obtain ⟨o', e', r, rfl, hl⟩ := thr_at h e
  exact ⟨r, e', hl⟩
theorem at_cons {os : List Od} {q : Nat} {o : Od} {l : List Od} (h : os[q]? = some o) (t : At os (q + 1) l) : At os q (o :: l) := fun j o' e => by
  match j, e with
  | 0, e => cases e; exact h
  | j + 1, e => have := t j o' e; rw [show q + (j + 1) = q + 1 + j by lia]; exact this
theorem at_nil {os : List Od} {q : Nat} : At os q [] := fun j o e => by simp at e
theorem sim_done {os3 : List Od} (hN : 1 ≤ R.length) (hok : ∀ r ∈ R, r.Ok (R.length - 1)) (h : Thrs (gcode kbl R) (gcode kbl R).length os3) : Sim os3 (gcode kbl R) R (gpos kbl R) := by
  refine ⟨fun i r hr => ?_, thr_same h gcode_fin (by simp) (by simp), base_jump (fun _ _ => rfl) hN hok, base_row kbl_row, base_fin⟩
  have hat := gcode_At (bf := kbl) hr
  have hnx := gpos_next (bf := kbl) hr
  have hk := hok _ (List.mem_of_getElem? hr)
  cases r with
  | let_ b k =>
    exact ⟨at_cons (thr_same h (hat 0 _ rfl) (by simp) (by simp)) (at_cons (thr_same h (hat 1 _ rfl) (by simp) (by simp)) (at_cons (thr_same h (hat 2 _ rfl) (by simp) (by simp)) (at_cons (thr_same h (hat 3 _ rfl) (by simp) (by simp)) (at_cons (thr_same h (hat 4 _ rfl) (by simp) (by simp)) at_nil)))), hnx⟩
  | less k g =>
    have hg : g < R.length := by have : g ≤ R.length - 1 := hk.2; lia
    obtain ⟨t, e, hl⟩ := thr_tst h ((hat 4 _ rfl).trans (congrArg some (l_tst (bf := kbl) hg)))
    exact ⟨t, .inr hl, at_cons (thr_same h (hat 0 _ rfl) (by simp) (by simp)) (at_cons (thr_same h (hat 1 _ rfl) (by simp) (by simp)) (at_cons (thr_same h (hat 2 _ rfl) (by simp) (by simp)) (at_cons (thr_same h (hat 3 _ rfl) (by simp) (by simp)) (at_cons e at_nil)))), hnx⟩
  | known k g =>
    have hg : g < R.length := by have : g ≤ R.length - 1 := hk.2; lia
    by_cases hk0 : k = 0
    · have e0 : kbl (.known k g) i = [.row i, .go g] := if_pos hk0
      rw [e0] at hat hnx
      obtain ⟨t, e, hl⟩ := thr_go h ((hat 1 _ rfl).trans (congrArg some (l_go (bf := kbl) hg)))
      exact .inr (.inr ⟨hk0, t, .inr hl, at_cons (thr_same h (hat 0 _ rfl) (by simp) (by simp)) (at_cons e at_nil), hnx⟩)
    · have e0 : kbl (.known k g) i = [.row i] := if_neg hk0
      rw [e0] at hat hnx
      exact .inr (.inl ⟨hk0, at_cons (thr_same h (hat 0 _ rfl) (by simp) (by simp)) at_nil, hnx⟩)
  | jump g =>
    have hg : g < R.length := by have : g ≤ R.length - 1 := hk; lia
    obtain ⟨t, e, hl⟩ := thr_go h ((hat 0 _ rfl).trans (congrArg some (l_go (bf := kbl) hg)))
    exact ⟨t, .inr hl, at_cons e at_nil⟩
  | goto g =>
    have hg : g < R.length := by have : g ≤ R.length - 1 := hk; lia
    obtain ⟨t, e, hl⟩ := thr_go h ((hat 1 _ rfl).trans (congrArg some (l_go (bf := kbl) hg)))
    exact ⟨t, .inr hl, at_cons (thr_same h (hat 0 _ rfl) (by simp) (by simp)) (at_cons e at_nil)⟩
  | rem => exact ⟨at_cons (thr_same h (hat 0 _ rfl) (by simp) (by simp)) at_nil, hnx⟩
/-- jumps of what thread_jumps gives lead on as the old ones did -/
theorem thr_ring {os os' : List Od} (h : Thrs os os.length os') {i t : Nat} (hi : os'[i]? = some (.go t) ∨ os'[i]? = some (.tst t)) (ht : ∃ u, os'[t]? = some (.go u)) : t < os'.length ∧ ∀ y, Chain os' t y → ∃ u, os'[y]? = some (.go u) := by
  have back : ∀ {q : Nat} {u : Nat}, os'[q]? = some (.go u) → ∃ u', os[q]? = some (.go u') ∧ Lg os u' u := fun {q u} e => by
    have hq : q < os.length := by rw [← h.1]; exact (List.getElem?_eq_some_iff.mp e).1
    obtain ⟨o, ho⟩ : ∃ o, os[q]? = some o := ⟨_, List.getElem?_eq_getElem hq⟩
    obtain ⟨o', e', th⟩ := thr_at h ho
    rw [e] at e'; cases e'
    cases o with
    | go t => obtain ⟨r, e2, hl⟩ := th; cases e2; exact ⟨t, ho, hl⟩
    | tst t => obtain ⟨r, e2, hl⟩ := th; cases e2
    | _ => cases th
  have hlg : ∃ t0, Lg os t0 t := by
    rcases hi with hi | hi
    · obtain ⟨u', _, hl⟩ := back hi; exact ⟨u', hl⟩
    · have hq : i < os.length := by rw [← h.1]; exact (List.getElem?_eq_some_iff.mp hi).1
      obtain ⟨o, ho⟩ : ∃ o, os[i]? = some o := ⟨_, List.getElem?_eq_getElem hq⟩
      obtain ⟨o', e', th⟩ := thr_at h ho
      rw [hi] at e'; cases e'
      cases o with
      | go t => obtain ⟨r, e2, hl⟩ := th; cases e2
      | tst t => obtain ⟨r, e2, hl⟩ := th; cases e2; exact ⟨t, hl⟩
      | _ => cases th
  obtain ⟨t0, hl⟩ := hlg
  obtain ⟨u, hu⟩ := ht
  obtain ⟨u', hu', _⟩ := back hu
  have ring := hl.2.2 ⟨u', hu'⟩
  refine ⟨by rw [h.1]; exact hl.2.1, fun y hc => ?_⟩
  have key : ∀ a y, Chain os' a y → Chain os t a → Chain os t y := by
    intro a y hc
    induction hc with
    | refl => exact id
    | step e _ ih =>
      intro ha
      obtain ⟨v, hv, hlv⟩ := back e
      exact ih ((ha.snoc hv).trans hlv.1)
  obtain ⟨v, hv⟩ := ring y (key t y hc .refl)
  obtain ⟨r, hr, _⟩ := thr_go h hv
  exact ⟨r, hr⟩
/-- no test behind a number -/
noncomputable def NoPT (l : List Od) : Prop := ∀ j t, l[j]? = some (.tst t) → ∃ j' o, j = j' + 1 ∧ l[j']? = some o ∧ ∀ k, o ≠ .push k
theorem NoPT.app {a b : List Od} (ha : NoPT a) (hb : NoPT b) : NoPT (a ++ b) := fun j t e => by
  by_cases hj : j < a.length
  · rw [List.getElem?_append_left hj] at e
    obtain ⟨j', o, rfl, e1, e2⟩ := ha j t e
    exact ⟨j', o, rfl, by rw [List.getElem?_append_left (by lia)]; exact e1, e2⟩
  · rw [List.getElem?_append_right (by lia)] at e
    obtain ⟨j', o, e0, e1, e2⟩ := hb _ t e
    refine ⟨a.length + j', o, by lia, ?_, e2⟩
    rw [List.getElem?_append_right (by lia), Nat.add_sub_cancel_left]; exact e1
theorem NoPT.nt {a : List Od} (h : ∀ o ∈ a, ∀ t, o ≠ .tst t) : NoPT a := fun j t e => absurd rfl (h _ (List.mem_of_getElem? e) t)
theorem NoPT.map {a : List Od} {st : List Nat} (ha : NoPT a) : NoPT (a.map (ledO st)) := fun j t e => by
  rw [List.getElem?_map] at e
  obtain ⟨o, ho, e'⟩ := Option.map_eq_some_iff.mp e
  obtain ⟨t', rfl⟩ : ∃ t', o = .tst t' := by cases o <;> simp [ledO] at e' ⊢
  obtain ⟨j', o', e0, e1, e2⟩ := ha j t' ho
  refine ⟨j', ledO st o', e0, by rw [List.getElem?_map, e1]; rfl, fun k => ?_⟩
  cases o' <;> simp [ledO]
  exact absurd rfl (e2 _)
theorem kbl_npt (r : Rw) (i : Nat) : NoPT (kbl r i) := by
  cases r with
  | less k g =>
    intro j t e
    match j, e with
    | 4, e => exact ⟨3, .lt, rfl, rfl, by simp⟩
    | 0, e => cases e
    | 1, e => cases e
    | 2, e => cases e
    | 3, e => cases e
    | j + 5, e => simp [kbl, blk] at e
  | known k g =>
    have e : kbl (.known k g) i = if k = 0 then [.row i, .go g] else [.row i] := rfl
    rw [e]; split <;> exact NoPT.nt (by simp)
  | _ => exact NoPT.nt (by simp [kbl, blk])
theorem gcor_npt : ∀ {i : Nat} {rs : List Rw}, NoPT (gcor kbl i rs)
  | i, [] => NoPT.nt (by simp [gcor])
  | i, r :: rs => by rw [gcor]; exact (kbl_npt r i).app gcor_npt
theorem done_npt {os3 : List Od} (h : Thrs (gcode kbl R) (gcode kbl R).length os3) : NoPT os3 := fun j t e => by
  have hn : NoPT (gcode kbl R) := (gcor_npt.map).app (NoPT.nt (by simp))
  have hq : j < (gcode kbl R).length := by rw [← h.1]; exact (List.getElem?_eq_some_iff.mp e).1
  obtain ⟨o, ho⟩ : ∃ o, (gcode kbl R)[j]? = some o := ⟨_, List.getElem?_eq_getElem hq⟩
  obtain ⟨o', e', th⟩ := thr_at h ho
  rw [e] at e'; cases e'
  obtain ⟨t0, rfl⟩ : ∃ t0, o = .tst t0 := by
    cases o with
    | tst t => exact ⟨t, rfl⟩
    | go t => obtain ⟨r, e2, _⟩ := th; cases e2
    | _ => cases th
  obtain ⟨j', o', e0, e1, e2⟩ := hn j t0 ho
  obtain ⟨o'', e3, th'⟩ := thr_at h e1
  refine ⟨j', o'', e0, e3, fun k hk => ?_⟩
  subst hk
  cases o' with
  | go t => obtain ⟨r, e4, _⟩ := th'; cases e4
  | tst t => obtain ⟨r, e4, _⟩ := th'; cases e4
  | push v => exact e2 v rfl
  | _ => cases th'
/-- what known_tests gives is the blocks without the known tests -/
theorem known_code (hN : 1 ≤ R.length) (hok : ∀ r ∈ R, r.Ok (R.length - 1)) {F : List Od} {L : List Nat} (h : KS (fun k => k ∈ gst blk R ∨ Od.go k ∈ gcode blk R ∨ Od.tst k ∈ gcode blk R) (gcode blk R) (gcode blk R).length F L) :
    F.map (ledO L) = gcode kbl R ∧ (gst blk R).map (fun q => L.getD q 0) = gst kbl R := by
  have hP : ∀ q, (q ∈ gst blk R ∨ Od.go q ∈ gcode blk R ∨ Od.tst q ∈ gcode blk R) → q ∈ gst blk R := fun q hq => by
    have key : ∀ g, g < R.length → (gst blk R).getD g 0 ∈ gst blk R := fun g hg => by
      rw [gst_getD hg]; exact List.mem_of_getElem? (gst_get hg)
    rcases hq with hq | hq
    · exact hq
    · unfold gcode at hq
      simp only [List.mem_append, List.mem_map, List.mem_singleton, reduceCtorEq, or_false] at hq
      rcases hq with ⟨o, ho, e⟩ | ⟨o, ho, e⟩
      · cases o <;> simp only [ledO, reduceCtorEq, Od.go.injEq] at e
        subst e; exact key _ (goals_blk hN hok _ (.inl ho))
      · cases o <;> simp only [ledO, reduceCtorEq, Od.tst.injEq] at e
        subst e; exact key _ (goals_blk hN hok _ (.inr ho))
  rw [gcode_len] at h
  obtain ⟨F1, L1, k1, e1, e2⟩ := KS.inv_keep h gcode_fin (by simp)
  obtain ⟨f1, f2, f3⟩ := ks_blocks hP R.length (Nat.le_refl _) k1
  rw [List.take_length] at f1
  have hL : ∀ j, j < R.length → L.getD (gpos blk R j) 0 = gpos kbl R j := fun j hj => by
    rw [List.getD_eq_getElem?_getD, e2, List.getElem?_append_left (List.getElem?_eq_some_iff.mp (f3 j hj)).1, f3 j hj]; rfl
  constructor
  · rw [e1, f1, List.map_append, List.map_map]
    unfold gcode
    congr 1
    apply List.map_congr_left
    intro o ho
    have hg := goals_kbl hN hok
    cases o with
    | go t =>
      have ht := hg t (.inl ho)
      show Od.go (L.getD ((gst blk R).getD t 0) 0) = Od.go ((gst kbl R).getD t 0)
      rw [gst_getD ht, hL t ht, gst_getD ht]
    | tst t =>
      have ht := hg t (.inr ho)
      show Od.tst (L.getD ((gst blk R).getD t 0) 0) = Od.tst ((gst kbl R).getD t 0)
      rw [gst_getD ht, hL t ht, gst_getD ht]
    | _ => rfl
  · unfold gst
    rw [List.map_map]
    apply List.map_congr_left
    intro j hj
    rw [List.mem_range] at hj
    exact hL j hj
end
/-! ### S21 -/
noncomputable def lawF (p : Params) (la : Addr) (lc : Value) : FrA := ⟨(fdOf (KK p) 665).qualname, (fdOf (KK p) 665).scope, la, lc, [], true⟩
section
variable {c : Cx} {fa : FrA} {m : LM} {H : HA} {Q : Fl → LM → HA → Prop} {X : Addr → LM → HA → Prop}
theorem xs_post {st : Stmt} {rest : List Stmt} {P : LM → HA → Prop} (h : ExS c fa st m H (fun f m1 H1 => f = .next ∧ P m1 H1) X) (k : ∀ m1 H1, P m1 H1 → ExW c fa rest m1 H1 Q X) : ExW c fa (st :: rest) m H Q X := ex_cons fun A env L ρ s ok =>
  wpAny_mono (h A env L ρ s ok) (by rintro f s' ⟨ρ', m', H', f', h1, h2, h3, h4, h5, h6⟩; exact ⟨ρ', m', H', f', h1, h2, h3, h4, by subst h5; exact k _ _ h6⟩) fun _ _ e => e
end
theorem natV_int {bg : List Nat} : natV bg = (bg.map fun q : Nat => (q : Int)).map V.int := by unfold natV; rw [List.map_map]; rfl
theorem in_go {t : Nat} : [("GO" : Str), ("FALSE" : Str)].any (· == wOd (.go t)) = true := by kernel_rfl
theorem in_tst {t : Nat} : [("GO" : Str), ("FALSE" : Str)].any (· == wOd (.tst t)) = true := by kernel_rfl
theorem in_no {o : Od} (h1 : ∀ t, o ≠ .go t) (h2 : ∀ t, o ≠ .tst t) : [("GO" : Str), ("FALSE" : Str)].any (· == wOd o) = false := by
  cases o <;> first | exact absurd rfl (h1 _) | exact absurd rfl (h2 _) | kernel_rfl
theorem go_FALSE {t : Nat} : (wOd (.go t) == ("FALSE" : Str)) = false := by kernel_rfl
section
variable {c : Cx} {p : Params} {m : LM} {H : HA} {la : Addr} {lc : Value}
theorem law_for (g : Gd c p) (hd : 19 ≤ c.d) (hv : c.hv = none) {tf to ks : Nat} {os : List Od} (l1 : m.lookup ("done" : Str) = some (.ref tf)) (h1 : H[tf]? = some (.inst 343 (codeF (.ref to) (.ref ks)))) (h2 : H[to]? = some (.list (os.map vOd))) (hz : os.length ≤ 1000)
    (hr : ∀ i t : Nat, (os[i]? = some (Od.go t) ∨ os[i]? = some (Od.tst t)) → (∃ u, os[t]? = some (Od.go u)) → ∀ y, Chain os t y → ∃ u, os[y]? = some (Od.go u)) (ht : ∀ i t : Nat, (os[i]? = some (Od.go t) ∨ os[i]? = some (Od.tst t)) → t < os.length) (hn : NoPT os) :
    ExW c (lawF p la lc) ((bodyOf (KK p) 665).drop 8) m H (fun fl _ _ => fl = .ret (.bool true)) (fun _ _ _ => False) := by
  conv => arg 3; whnf
  repeat tlg_ne
  refine xs_for_enum (n := to) (xs := os.map vOd) (fun i m' H' => m'.lookup ("done" : Str) = some (.ref tf) ∧ Ext [] H H') hv ⟨n_enumerate g, b_enumerate, by kernel_rfl, by decide +kernel, by decide +kernel⟩ ?_ (fun i m' H' h => h.2.get (by simp) h2) ?_ ?_
  · repeat tlg_ne
    exact ⟨rfl, l1, Ext.refl⟩
  · rintro i x m' H' hx ⟨l2, x1⟩
    rw [List.getElem?_map] at hx
    obtain ⟨o, ho, rfl⟩ := Option.map_eq_some_iff.mp hx
    have hi := (List.getElem?_eq_some_iff.mp ho).1
    have k1 := x1.get (by simp) h1
    have k2 := x1.get (by simp) h2
    have item : ∀ y q, os[y]? = some q → (os.map vOd)[((y : Nat) : Int).toNat]? = some (vOd q) := fun y q h => by
      show (os.map vOd)[y]? = _
      rw [List.getElem?_map, h]; rfl
    rcases od_cases o with ⟨t, rfl⟩ | ⟨t, rfl⟩ | ⟨e1, e2, e3, e4⟩
    · have htl := ht i t (.inl ho)
      obtain ⟨q, hq⟩ : ∃ q, os[t]? = some q := ⟨_, List.getElem?_eq_getElem htl⟩
      have hit := item t q hq
      have eF := @go_FALSE t
      repeat tlg_ne
      refine op_inT_t (ys := [("GO" : Str), ("FALSE" : Str)]) in_go ?_
      rcases od_cases q with ⟨u, rfl⟩ | hq'
      · have eG := @go_GO u
        repeat tlg_ne
        refine sp_is_ring g (by kl_some) hv k2 hz (hr i t (.inl ho) ⟨u, hq⟩) fun H2 x2 => ?_
        repeat tlg_ne
        exact ⟨by lcg_off, x1.trans x2⟩
      · have eG : (wOd q == ("GO" : Str)) = false := by
          rcases hq' with ⟨u, rfl⟩ | ⟨e, _⟩
          · exact tst_GO
          · exact e
        repeat tlg_ne
        exact ⟨by lcg_off, x1⟩
    · have htl := ht i t (.inr ho)
      obtain ⟨q, hq⟩ : ∃ q, os[t]? = some q := ⟨_, List.getElem?_eq_getElem htl⟩
      have hit := item t q hq
      have eF := @tst_FALSE t
      obtain ⟨j, o', rfl, ho', hnp⟩ := hn i t ho
      have hij := item j o' ho'
      have e1 : (((j + 1 : Nat) : Int) - 1).toNat = ((j : Nat) : Int).toNat := by lia
      have hij' : (os.map vOd)[(((j + 1 : Nat) : Int) - 1).toNat]? = some (vOd o') := by rw [e1]; exact hij
      have eP : (wOd o' == ("PUSH" : Str)) = false := by
        rcases @push_of o' with ⟨k, rfl⟩ | ⟨e, _⟩
        · exact absurd rfl (hnp k)
        · exact e
      repeat tlg_ne
      refine op_inT_t (ys := [("GO" : Str), ("FALSE" : Str)]) in_tst ?_
      rcases od_cases q with ⟨u, rfl⟩ | hq'
      · have eG := @go_GO u
        repeat tlg_ne
        refine sp_is_ring g (by kl_some) hv k2 hz (hr (j + 1) t (.inr ho) ⟨u, hq⟩) fun H2 x2 => ?_
        have k1' := x2.get (by simp) k1
        have k2' := x2.get (by simp) k2
        repeat tlg_ne
        exact ⟨by lcg_off, x1.trans x2⟩
      · have eG : (wOd q == ("GO" : Str)) = false := by
          rcases hq' with ⟨u, rfl⟩ | ⟨e, _⟩
          · exact tst_GO
          · exact e
        repeat tlg_ne
        exact ⟨by lcg_off, x1⟩
    · repeat tlg_ne
      refine op_inT_f (ys := [("GO" : Str), ("FALSE" : Str)]) (in_no e3 e4) ?_
      repeat tlg_ne
      exact ⟨by lcg_off, x1⟩
  · rintro m' H' ⟨l2, x1⟩
    repeat tlg_ne
    rfl
end
/-! ### S22 -/
section
variable {c : Cx} {p : Params} {m : LM} {H : HA} {la : Addr} {lc : Value}
theorem law_if (g : Gd c p) (G : GP c.B) (T : GT c.B p) (hd : 19 ≤ c.d) (hv : c.hv = none) {tf to ks cf co cs dl dd : Nat} {os os3 : List Od} {st1 st2 bg : List Nat} {a b : Int} {z : Bool} (l1 : m.lookup ("done" : Str) = some (.ref tf)) (l2 : m.lookup ("code" : Str) = some (.ref cf)) (l3 : m.lookup ("due" : Str) = some (.tup [.ref dl, .ref dd, .bool z]))
    (h1 : H[tf]? = some (.inst 343 (codeF (.ref to) (.ref ks)))) (h2 : H[to]? = some (.list (os3.map vOd))) (h3 : H[ks]? = some (.list (natV (0 :: st2)))) (h4 : H[cf]? = some (.inst 343 (codeF (.ref co) (.ref cs)))) (h5 : H[co]? = some (.list (os.map vOd))) (h6 : H[cs]? = some (.list (natV (0 :: st1))))
    (h7 : H[dl]? = some (.list (natV bg))) (h8 : H[dd]? = some (.dictS (nmD a b))) (hz1 : os.length ≤ 1000) (hz3 : os3.length ≤ 1000) (hs1 : st1.length ≤ 100) (hs2 : st2.length ≤ 100) (hrun : z = false → (∃ n, Rn os n 0 [] [] 0 0 0 (bg, a, b)) ∧ ∃ n, Rn os3 n 0 [] [] 0 0 0 (bg, a, b))
    (hr : ∀ i t : Nat, (os3[i]? = some (Od.go t) ∨ os3[i]? = some (Od.tst t)) → (∃ u, os3[t]? = some (Od.go u)) → ∀ y, Chain os3 t y → ∃ u, os3[y]? = some (Od.go u)) (ht : ∀ i t : Nat, (os3[i]? = some (Od.go t) ∨ os3[i]? = some (Od.tst t)) → t < os3.length) (hn : NoPT os3) :
    ExW c (lawF p la lc) ((bodyOf (KK p) 665).drop 7) m H (fun fl _ _ => fl = .ret (.bool true)) (fun _ _ _ => False) := by
  conv => arg 3; whnf
  refine xs_post (P := fun m1 H1 => m1.lookup ("done" : Str) = some (.ref tf) ∧ Ext [] H H1) ?_ (by rintro m1 H1 ⟨l, x⟩; exact law_for g hd hv l (x.get (by simp) h1) (x.get (by simp) h2) hz3 hr ht hn)
  cases z
  · obtain ⟨⟨n1, r1⟩, ⟨n3, r3⟩⟩ := hrun rfl
    have ldl : dl < H.length := (List.getElem?_eq_some_iff.mp h7).1
    have ldd : dd < H.length := (List.getElem?_eq_some_iff.mp h8).1
    repeat tlg_ne
    refine sp_law_begun g G T (by kl_some) hv h4 h5 h6 r1 hz1 hs1 fun l d H1 x1 ll ld e1 e2 => ?_
    repeat tlg_ne
    have f1 := x1.get (by simp) h1
    have f2 := x1.get (by simp) h2
    have f3 := x1.get (by simp) h3
    have f7 := x1.get (by simp) h7
    have f8 := x1.get (by simp) h8
    refine op_ne3 (ns := bg.map fun q : Nat => (q : Int)) (ka := ("A" : Str)) (kb := ("B" : Str)) (a := a) (b := b) (by rw [← natV_int]; exact e1) (by rw [← natV_int]; exact f7) e2 f8 (by decide +kernel) (by kl_some) (by kl_some) ?_
    repeat tlg_ne
    refine sp_law_begun g G T (by kl_some) hv f1 f2 f3 r3 hz3 hs2 fun l' d' H2 x2 ll' ld' e1' e2' => ?_
    have hl1 := x1.1
    repeat tlg_ne
    refine op_ne3 (ns := bg.map fun q : Nat => (q : Int)) (ka := ("A" : Str)) (kb := ("B" : Str)) (a := a) (b := b) (by rw [← natV_int]; exact e1') (by rw [← natV_int]; exact x2.get (by simp) f7) e2' (x2.get (by simp) f8) (by decide +kernel) (by kl_some) (by kl_some) ?_
    repeat tlg_ne
    exact ⟨rfl, l1, x1.trans x2⟩
  · repeat tlg_ne
    exact ⟨rfl, l1, Ext.refl⟩
end
/-! ### S23 -/
theorem ints_len : ∀ {vs : List Value} {ns : List Int}, IntsAre vs ns → vs.length = ns.length
  | _, _, .nil => rfl
  | _, _, .cons _ _ h => by rw [List.length_cons, List.length_cons, ints_len h]
theorem ints_vr {B : Bx} {h : Heap} {ρ : Rho} : ∀ {vs : List Value} {ns : List Int}, IntsAre vs ns → VRs B h ρ (ns.map V.int) vs
  | _, _, .nil => trivial
  | _, _, .cons n t h => ⟨.int n t, ints_vr h⟩
section
variable {c : Cx} {fa : FrA} {m : LM} {H : HA} {Q : V → HA → Prop} {X : Addr → LM → HA → Prop} {a : Addr} {vs : List Value} {ns : List Int}
theorem list_base {B : Bx} {ρ : Rho} {h : Heap} (st : St B ρ H h) (hl : B.h0.IsList a vs.toArray) : h.IsList a vs.toArray := let ⟨o, e, r⟩ := hl; ⟨o, st.base _ _ e, r⟩
theorem fn_lenB {X : Addr → HA → Prop} (hl : c.B.h0.IsList a vs.toArray) (hi : IntsAre vs ns) (hz : ns.length ≤ 1000) (hq : Q (.int ns.length) H) : OpN c (fun vs => call (.builtin "len") vs) [.glob a] H Q X := fun A ρ s ws ak st va => by
  replace va := va.one; obtain ⟨pv, rfl, va⟩ := va
  cases va
  have hlen := ints_len hi
  refine Calls.call_len_list (list_base st hl) (by simp; lia) ⟨ρ, H, .int ns.length, Step.toks, st, ?_, hq⟩
  rw [← hlen]
  simpa using VR.int _ _
theorem ev_uptoB {l i : Expr} {p pos : Pos} (hl : c.B.h0.IsList a vs.toArray) (hi : IntsAre vs ns) (hz : ns.length ≤ 1000)
    (h : EvW c fa l m H (fun v H1 => v = .glob a ∧ EvW c fa i m H1 (fun kv H2 => ∃ k : Int, kv = .int k ∧ 0 ≤ k ∧ Q (.ref H2.length) (H2 ++ [.list ((ns.map V.int).take k.toNat)])) X) X) : EvW c fa (.Subscript l (.Slice none (some i) none p) pos) m H Q X := fun A env L ρ s k => by
  refine slice_list (wpAny_mono (h A env L ρ s k) ?_ fun _ _ r => r)
  rintro pv s₁ ⟨ρ₁, H₁, v, x1, st1, l1, r, hv, h1⟩
  subst hv
  cases r
  have k1 := k.next x1 st1 l1
  refine wpAny_evalPart_none (wpAny_evalPart_some (wpAny_mono (h1 A env L ρ₁ s₁ k1) ?_ fun _ _ r => r.after x1))
  rintro pk s₂ ⟨ρ₂, H₂, kv, x2, st2, l2, rk, kk, hk, h0, hq⟩
  subst hk
  cases rk
  have hlen := ints_len hi
  refine ⟨a, vs.toArray, none, some kk, rfl, list_base st2 hl, by simp only [List.size_toArray]; rw [sizeLine_eq]; lia, .none, .int _ _, ?_⟩
  rw [pick_upto vs h0]
  generalize hs : ({ cls := .type "slice", data := .fields _ } : Obj) = so
  have kp : ∀ b o, s₂.heap.get? b = some o → ((s₂.heap.push so).push { cls := .type "list", data := .seq (vs.take kk.toNat).toArray }).get? b = some o := fun b o e => Heap.get?_push_of_some _ (Heap.get?_push_of_some _ e)
  obtain ⟨ρ', H', v, x3, st3, r3, q3⟩ := new_list (c := c) (Q := Q) (q := s₂.heap.objs.size + 1) (s' := { s₂ with heap := (s₂.heap.push so).push { cls := .type "list", data := .seq (vs.take kk.toNat).toArray } }) (vs := vs.take kk.toNat) (xs := (ns.map V.int).take kk.toNat) st2 kp rfl rfl (Nat.le_succ _) (by
    have := Heap.get?_push_size (s₂.heap.push so) (o := { cls := .type "list", data := .seq (vs.take kk.toNat).toArray }) rfl
    simpa using this) ((ints_vr hi).take _) hq
  exact ⟨ρ', H', v, (x1.trans x2).trans (x3.atL l2.off), st3, l2.mono st2 x3, r3, q3⟩
end
section
variable {c : Cx} {p : Params} {la : Addr} {lc : Value}
theorem sp_law (g : Gd c p) (G : GP c.B) (T : GT c.B p) (hd : 20 ≤ c.d) (hv : c.hv = none) {sa : Addr} {vs : List Value} {ns : List Int} (hsl : c.B.h0.IsList sa vs.toArray) (hsi : IntsAre vs ns) (hz : ns.length ≤ 1000) :
    ExW c (lawF p la lc) (bodyOf (KK p) 665) [(("script" : Str), .glob sa)] [] (fun fl _ _ => fl = .ret (.bool true)) (fun _ _ _ => False) := by
  conv => arg 3; whnf
  generalize ([] : HA) = H
  generalize hms : ns.take 40 = ms
  have hml : ms.length ≤ 40 := by rw [← hms, List.length_take]; lia
  iterate 4 tlg_ne
  refine ev_comp (frees := []) (N := (ms.map V.int).length) (G := fun H' => H'[H.length]? = some (.list (ms.map V.int))) (item := fun i => (ms.map V.int).getD i .none) hv ⟨fun env h => closure_of (by kernel_rfl) env h, (by intro z hz; cases hz), by kernel_rfl, ?_, ?_⟩ (first_val ?_)
  · intro x hx; revert x; decide +kernel
  · intro x hx; revert x; decide +kernel
  · refine ev_uptoB hsl hsi hz ?_
    repeat tlg_ne
    refine ⟨rfl, ?_⟩
    repeat tlg_ne
    refine ⟨_, rfl, by decide, ?_⟩
    have htk : List.take (40 : Int).toNat (ns.map V.int) = ms.map V.int := by show List.take 40 _ = _; rw [← hms, List.map_take]
    rw [htk]
    refine ⟨iter_list hs_last, fun i m2 H2 => Ext [] (H ++ [Ob.list (ms.map V.int)]) H2 ∧ H2[(H ++ [Ob.list (ms.map V.int)]).length]? = some (.list ((ms.take i).map fun z : Int => V.int (if z < 0 then -z else z))), ⟨Ext.refl.app, hs_last⟩, fun i m2 H2 h => h.1.get (by simp) hs_last, ?_, ?_⟩
    · rintro i m2 H2 hi ⟨x2, y2⟩
      rw [List.length_map] at hi
      obtain ⟨z, hzi⟩ : ∃ z, ms[i]? = some z := ⟨_, List.getElem?_eq_getElem hi⟩
      have hgi : (ms.map V.int).getD i .none = .int z := by rw [List.getD_eq_getElem?_getD, List.getElem?_map, hzi]; rfl
      show TgW _ _ _ ((ms.map V.int).getD i .none) _ _ _
      rw [hgi]
      repeat tlg_ne
      refine ⟨_, y2, by rw [List.length_map, List.length_take]; lia, x2.setN (Nat.le_refl _), ?_⟩
      rw [List.take_add_one, hzi, hs_here y2]
      simp
    · rintro m2 H2 ⟨x2, y2⟩
      rw [List.length_map, List.take_length] at y2
      generalize hF : (H ++ [Ob.list (ms.map V.int)]).length = F at y2 ⊢
      have hFl : F < H2.length := (List.getElem?_eq_some_iff.mp y2).1
      repeat tlg_ne
      refine fn_lenB hsl hsi hz ?_
      repeat tlg_ne
      refine op_mod (by decide) ?_
      repeat tlg_ne
      have yn : H2[F]? = some (.list ((ms.map fun z : Int => if z < 0 then -z else z).map V.int)) := by rw [y2, List.map_map]; rfl
      have hw0 := Int.fmod_nonneg_of_pos (ns.length : Int) (show (0 : Int) < 7 by decide)
      have hw1 := Int.fmod_lt_of_pos (ns.length : Int) (show (0 : Int) < 7 by decide)
      refine sp_law_rows g (by kl_some) (by kl_some) hv hs_last (hs_app yn) hw0 (by kl_some) (by rw [List.length_map]; exact hml) fun rows f H3 hr2 hr7 hrok x3 l3 y3 => ?_
      repeat tlg_ne
      have eR : List.map vRow rows ++ [V.tup [V.str ("REM" : Str), V.str ("" : Str)]] = (rows ++ [Rw.rem]).map vRow := by rw [List.map_append]; rfl
      rw [eR]
      generalize hR : rows ++ [Rw.rem] = R
      have hRl : R.length = rows.length + 1 := by rw [← hR]; simp
      have hok : ∀ r ∈ R, r.Ok (R.length - 1) := by
        rw [hRl, Nat.add_sub_cancel, ← hR]
        intro r hr
        rcases List.mem_append.mp hr with hr | hr
        · exact hrok r hr
        · rw [List.mem_singleton.mp hr]; trivial
      have hn4 : (H3 ++ [Ob.list [V.tup [V.str ("REM" : Str), V.str ("" : Str)]]] ++ [Ob.list (R.map vRow)])[(H3 ++ [Ob.list [V.tup [V.str ("REM" : Str), V.str ("" : Str)]]]).length]? = some (.list (R.map vRow)) := hs_last
      generalize (H3 ++ [Ob.list [V.tup [V.str ("REM" : Str), V.str ("" : Str)]]]).length = n4 at hn4 ⊢
      generalize (H3 ++ [Ob.list [V.tup [V.str ("REM" : Str), V.str ("" : Str)]]] ++ [Ob.list (R.map vRow)]) = H4 at hn4 ⊢
      refine xs_asgComp (frees := []) (N := (R.map vRow).length) (G := fun H' => H'[n4]? = some (.list (R.map vRow))) (item := fun i => .tup [.int i, (R.map vRow).getD i .none]) hv ⟨fun env h => closure_of (by kernel_rfl) env h, (by intro z hz; cases hz), by kernel_rfl, ?_, ?_⟩ (first_enum ⟨n_enumerate g, b_enumerate, by kernel_rfl, by decide +kernel, by decide +kernel⟩ ?_) (by kernel_rfl) ?_
      · intro x hx; revert x; decide +kernel
      · intro x hx; revert x; decide +kernel
      · repeat tlg_ne
        refine ⟨rfl, hn4, fun i m2 H5 => Ext [] H4 H5 ∧ ∃ xs : List V, H5[H4.length]? = some (.list xs) ∧ xs.length = i ∧ ∀ (j : Nat) (r : Rw), j < i → R[j]? = some r → ∃ s : Nat, s ≠ H4.length ∧ xs[j]? = some (.tup [.int (10 + (j : Int)), .ref s]) ∧ H5[s]? = some (.list [vRow r]),
          ⟨Ext.refl.app, [], hs_last, rfl, by intro j r hj; lia⟩, fun i m2 H5 h => h.1.get (by simp) hn4, ?_, ?_⟩
        · rintro i m2 H5 hi ⟨x5, xs, y5, hl5, hx5⟩
          rw [List.length_map] at hi
          obtain ⟨r, hr⟩ : ∃ r, R[i]? = some r := ⟨_, List.getElem?_eq_getElem hi⟩
          have hgi : (R.map vRow).getD i .none = vRow r := by rw [List.getD_eq_getElem?_getD, List.getElem?_map, hr]; rfl
          show TgW _ _ _ (.tup [.int i, (R.map vRow).getD i .none]) _ _ _
          rw [hgi]
          have h45 : H4.length < H5.length := (List.getElem?_eq_some_iff.mp y5).1
          repeat tlg_ne
          refine ⟨xs, hs_app y5, by lia, x5.app.setN (Nat.le_refl _), _, hs_here (hs_app y5), by simp [hl5], fun j q hj hq => ?_⟩
          by_cases hji : j < i
          · obtain ⟨s, e1, e2, e3⟩ := hx5 j q hji hq
            exact ⟨s, e1, by rw [List.getElem?_append_left (by kl_some)]; exact e2, hs_skip e1.symm (hs_app e3)⟩
          · have : j = i := by lia
            subst this
            rw [hr] at hq; cases hq
            exact ⟨H5.length, by lia, by rw [← hl5]; simp, hs_skip (by kl_some) hs_last⟩
        · rintro m2 H5 ⟨x5, xs, y5, hl5, hx5⟩
          rw [List.length_map] at hl5
          have yr5 := x5.get (by simp) hn4
          repeat tlg_ne
          refine sp_flatten g (by kl_some) hv y5 hl5 (by kl_some) (fun i r hr => by
            obtain ⟨s, _, e2, e3⟩ := hx5 i r (by rw [List.length_map]; exact (List.getElem?_eq_some_iff.mp hr).1) hr
            exact ⟨s, e2, e3⟩) fun fl fr fq fd fa flo ffn H6 x6 l6 y6 z6 w6 => ?_
          have yr6 := x6.get (by simp) yr5
          repeat tlg_ne
          refine sp_law_walk g (by kl_some) hv yr6 (by kl_some) fun dl dd bg a b z H7 x7 hwk yl7 yd7 => ?_
          repeat tlg_ne
          refine sp_compile g (by kl_some) hv (x7.get (by simp) y6) (x7.get (by simp) z6) (x7.get (by simp) w6) hok (by kl_some) (by kl_some) fun cf co cs H8 x8 l8 y8 z8 w8 => ?_
          have yl8 := x8.get (by simp) yl7
          have yd8 := x8.get (by simp) yd7
          rw [compO_gcode] at z8
          rw [cst_gst] at w8
          obtain ⟨st1, hst1, hst1l⟩ := gst_cons (bf := blk) (R := R) (by kl_some)
          have hlen1 : (gcode blk R).length ≤ 1000 := by
            rw [gcode_len, gpos_len, ← gcor_cor]
            have := @cor_len 0 R
            lia
          repeat tlg_ne
          refine sp_known g (by kl_some) hv y8 z8 w8 (by rw [hst1]; simp; lia) hlen1 (gcode_InR (goals_blk (by kl_some) hok)) gst_lt fun kf ko ks F L H9 x9 l9 hks y9 z9 w9 => ?_
          obtain ⟨hF, hS⟩ := known_code (by kl_some) hok hks
          rw [hF] at z9
          rw [hS] at w9
          have hlen2 : (gcode kbl R).length ≤ 1000 := by
            rw [← hF, List.length_map]
            have := hks.len
            lia
          have yl9 := x9.get (by simp) yl8
          have yd9 := x9.get (by simp) yd8
          have y89 := x9.get (by simp) y8
          have z89 := x9.get (by simp) z8
          have w89 := x9.get (by simp) w8
          repeat tlg_ne
          refine sp_thread (v := .none) g (by kl_some) hv y9 z9 hlen2 (gcode_InR (goals_kbl (by kl_some) hok)) fun tf to os3 H10 x10 l10 y10 z10 hth => ?_
          have yl10 := x10.get (by simp) yl9
          have yd10 := x10.get (by simp) yd9
          have y810 := x10.get (by simp) y89
          have z810 := x10.get (by simp) z89
          have w810 := x10.get (by simp) w89
          have w910 := x10.get (by simp) w9
          obtain ⟨st2, hst2, hst2l⟩ := gst_cons (bf := kbl) (R := R) (by kl_some)
          rw [hst1] at w810
          rw [hst2] at w910
          have hlen3 : os3.length ≤ 1000 := by rw [hth.1]; exact hlen2
          clear y8 z8 w8 y89 z89 w89 yl7 yl8 yl9 yd7 yd8 yd9 z9 w9 y9 x10 x9 x8 x7 x6 y6 z6 w6 yr6 yr5 y5 hx5 x5
          refine law_if (m := fset ("done" : Str) (.ref tf) _) g G T (by kl_some) hv (by lcg_off) (by lcg_off) (by lcg_off) y10 z10 w910 y810 z810 w810 yl10 yd10 hlen1 hlen3 (by kl_some) (by kl_some) (fun hzf => ?_) (fun i t hi hu => (thr_ring hth hi hu).2) ?_ (done_npt hth)
          · subst hzf
            have s1 := sim_run (sim_comp (by kl_some) hok) hok hwk rfl 0 (gpos blk R 0) (Nat.zero_le _) (by decide) (by decide) (by simp) (Nat.le_refl _) (.inl rfl)
            have s3 := sim_run (sim_done (by kl_some) hok hth) hok hwk rfl 0 (gpos kbl R 0) (Nat.zero_le _) (by decide) (by decide) (by simp) (Nat.le_refl _) (.inl rfl)
            rw [gpos_zero] at s1 s3
            exact ⟨s1, s3⟩
          · intro i t hi
            have key : ∀ {o : Od}, os3[i]? = some o → ∃ o', (gcode kbl R)[i]? = some o' ∧ Thr (gcode kbl R) o' o := fun {o} e => by
              have hq : i < (gcode kbl R).length := by rw [← hth.1]; exact (List.getElem?_eq_some_iff.mp e).1
              obtain ⟨o', ho'⟩ : ∃ o', (gcode kbl R)[i]? = some o' := ⟨_, List.getElem?_eq_getElem hq⟩
              obtain ⟨o2, e2, th⟩ := thr_at hth ho'
              rw [e] at e2; cases e2
              exact ⟨o', ho', th⟩
            rw [hth.1]
            rcases hi with hi | hi
            · obtain ⟨o', _, th⟩ := key hi
              cases o' with
              | go t => obtain ⟨r, e, hl⟩ := th; cases e; exact hl.2.1
              | tst t => obtain ⟨r, e, hl⟩ := th; cases e
              | _ => cases th
            · obtain ⟨o', _, th⟩ := key hi
              cases o' with
              | tst t => obtain ⟨r, e, hl⟩ := th; cases e; exact hl.2.1
              | go t => obtain ⟨r, e, hl⟩ := th; cases e
              | _ => cases th
      · refine scope_eq ?_
        intros
        rfl
end
/-! ### S24 -/
theorem law_ends {w : World} {ghost h1 : Heap} {g : Array GenState} {d : Drawn} {t : Nat} {os : OsState} {fa la L : Addr} {cd : Value} {vs : List Value} {script : List Int} {nm : Str} {sc : Scope} {st : List Stmt} {m mg mb : Str → Option Value} {loose : List Str} {mean : ExcName → Option Value} {Qf : Flow → Shared → Prop} {Ef : Value → Shared → Prop}
    (hst : st = bodyOf (KK w.params) 665) (hsc : sc = (fdOf (KK w.params) 665).scope) (hnm : nm = (fdOf (KK w.params) 665).qualname) (X : (KK w.params).In ghost) (T : Top topProg loose mean mg mb ghost) (F : Fr ghost L h1 m) (N : News ghost L h1 [(648, tabObj #[])]) (C : CodeHd ghost 652 648)
    (hl : ghost.IsList la vs.toArray) (hi : IntsAre vs script) (hz : script.length ≤ 1000) (hm : m ("script" : Str) = some (.ref la))
    (hq : ∀ s' : Shared, (∀ b o, ghost.get? b = some o → s'.heap.get? b = some o) → (∃ ps, s'.heap.get? 648 = some (tabObj ps)) → s'.gens = g → s'.os = os → Qf (.ret (.bool true)) s') :
    wpAny (model PySem.Challenge.rw_pq0150_01.row.prog w) (callerA.deeper (envOf nm sc L fa cd)) (execs st (envOf nm sc L fa cd)) Qf Ef ⟨h1, g, d, t, os⟩ := by
  have hN := N (648, tabObj #[]) (.head _)
  have hLn : ghost.get? L = none := Heap.get?_none_of_le F.above
  obtain ⟨c, hc⟩ : ∃ c : Cx, c = ⟨⟨PySem.Challenge.rw_pq0150_01.row.prog, w, KK w.params, ghost, mg, mb, topProg, loose, mean, 652, 648, 34, [(defPos (KK w.params) 1, ("_law_begun.<locals>.begin" : Str)), (defPos (KK w.params) 2, ("_law_begun.<locals>.store" : Str)), (defPos (KK w.params) 3, ("_law_begun.<locals>.led" : Str))], X, T, C, hN.2.2⟩, none, 30⟩ := ⟨_, rfl⟩
  have gd : Gd c w.params := by subst hc; exact ⟨rfl, rfl⟩
  have gp : GP c.B := by subst hc; exact ⟨by kernel_rfl, by kernel_rfl⟩
  have gt : GT c.B w.params := by subst hc; exact ⟨rfl, rfl⟩
  have main := sp_law (la := fa) (lc := cd) gd gp gt (by subst hc; exact Nat.le_of_ble_eq_true rfl) (by subst hc; rfl) (sa := la) (vs := vs) (by subst hc; exact hl) hi hz
  have kd : sc.kind = .function := by rw [hsc]; kernel_rfl
  obtain ⟨oL, es, ep, e1, e2, e3⟩ := id F.ns
  have fr : FrOk c.B [] h1 (envOf nm sc L fa cd) := ⟨kd, L, oL, rfl, by subst hc; exact hLn, e1, (fun vs z => by rw [e2] at z; cases z), fun q hq => by cases hq⟩
  have ok : Ok c (lawF w.params fa cd) [(("script" : Str), .glob la)] [] (callerA.deeper (envOf nm sc L fa cd)) (envOf nm sc L fa cd) L [] ⟨h1, g, d, t, os⟩ := by
    refine ⟨⟨?_, ?_, ?_, [envOf nm sc L fa cd], rfl, ?_⟩, ⟨hsc, by show (fdOf (KK w.params) 665).scope.kind = _; kernel_rfl, rfl, rfl, rfl, rfl, (fun x n z => by cases z), ⟨_, _, rfl, rfl⟩, fun _ => ⟨by rw [hsc, hnm]; rfl, _, rfl⟩⟩, ?_, ?_⟩
    · subst hc; rfl
    · subst hc; exact Nat.le_of_ble_eq_true rfl
    · subst hc; exact Nat.le_of_ble_eq_true rfl
    · intro e he
      cases List.mem_singleton.mp he
      exact fr
    · subst hc
      exact ⟨fun a o e => F.keep a o e, ⟨#[], hN.1, trivial, fun pq _ => .inl rfl⟩, rfl, (fun q hq => by cases hq), List.Pairwise.nil, (fun n q ob e => by simp at e)⟩
    · refine ⟨⟨m, F.ns, fun x v e => ?_⟩, (fun q hq => by cases hq), by subst hc; exact hLn⟩
      rw [List.lookup_cons] at e
      cases z : x == ("script" : Str) with
      | true =>
        rw [z] at e; cases e
        have : x = ("script" : Str) := eq_of_beq z
        subst this
        exact ⟨_, hm, .glob la⟩
      | false => rw [z] at e; cases e
  have res := main _ _ _ _ _ ok
  rw [← hst] at res
  have hB : c.B.M = model PySem.Challenge.rw_pq0150_01.row.prog w := by subst hc; rfl
  rw [hB] at res
  refine wpAny_mono res ?_ (by rintro e s' ⟨_, _, _, _, _, _, _, _, _, z⟩; exact z.elim)
  rintro f s' ⟨ρ', m', H', f', x1, st1, l1, fo, e⟩
  subst e
  cases f with
  | ret pv =>
    have fo' : VR c.B s'.heap ρ' (.bool true) pv := fo
    cases fo'
    obtain ⟨ps, e5, _⟩ := st1.tab
    refine hq s' (fun b o e => ?_) ⟨ps, ?_⟩ x1.gens x1.os
    · exact st1.base b o (by subst hc; exact e)
    · subst hc; exact e5
  | _ => exact fo.elim
end PQ
set_option maxHeartbeats 8000000 in
theorem PySem.Challenge.cw_pq0150_01_holds : PySem.Challenge.rw_pq0150_01.Holds := by
  refine PQ.hd (by rfl) (by rfl) (by rfl) ?_
  k_go0
  refine PQ.law_ends (by kernel_rfl) (by kernel_rfl) (by kernel_rfl) (by assumption) (by assumption) (by assumption) (by assumption) codeHd lifted (by assumption) (by omega) rfl fun s' b1 b2 b3 b4 => ?_
  refine ⟨⟨.inl ⟨.bool true, _, [], rfl, fun _ => rfl, ReadsW.bool true, ?post, fun _ => ⟨List.nodup_nil, fun _ hm => nomatch hm⟩⟩, b1, b4, b3.trans (by assumption)⟩, b2, trivial⟩
  case post => first | wrow_post | kc_post
